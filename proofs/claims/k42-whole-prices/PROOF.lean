import PyProof.Rows.All
import Wide.All
import OpenK.AllK
import Wide.FinOn
import HandS.ForMost
import HandS.TupAny
import HandS.TupLe
import HandS.TupSets
import HandS.Deep
import HandS.IsInst
import HandS.Flow
import HandS.Iter
import KE.GoesEnum
import KE.DataMinMax
import KE.SortData
import KE.KDictWalk
import KE.KDictCopyH
import KE.KDictSum
import KE.KDictDisplayH
import PySem.Challenge.RW_levellers_k42_whole_prices
set_option Elab.async false
set_option linter.all false
set_option maxRecDepth 100000
set_option maxHeartbeats 4000000
/-! Lv1: the data layer. Values are read as data in a ghost heap G; what a body may change is owned, by its address. -/
namespace Lv
open PySem PySem.Spec PyProof.Rows L2
abbrev St := L2.St

/-! ### values read as data -/
mutual
inductive Rp (K : PySem.W.Frag) (H : Hp) : V → PyData → Prop
  | non : Rp K H .non .none
  | bl (b : Bool) : Rp K H (.bl b) (.bool b)
  | int (i : Int) : Rp K H (.int i) (.int i)
  | dct {a : Addr} : H a = some (.dK []) → Rp K H (.ref a) (.dict [])
  | scr {a : Addr} {ns : List Int} : SqL K H a (ns.map V.int) → Rp K H (.ref a) (.dict [(.none, .list (ns.map PyData.int))])
  | lst {a : Addr} {xs : List V} {ds : List PyData} : H a = some (.lst xs) → RpAll K H xs ds → Rp K H (.ref a) (.list ds)
  | tup {a : Addr} {xs : List V} {ds : List PyData} : H a = some (.tup xs) → RpAll K H xs ds → Rp K H (.ref a) (.tuple ds)
inductive RpAll (K : PySem.W.Frag) (H : Hp) : List V → List PyData → Prop
  | nil : RpAll K H [] []
  | cons {v : V} {vs : List V} {d : PyData} {ds : List PyData} : Rp K H v d → RpAll K H vs ds → RpAll K H (v :: vs) (d :: ds)
end
section
variable {K : PySem.W.Frag} {H H' : Hp}
mutual
theorem Rp.mono (e : Same H H') : ∀ (d : PyData) (v : V), Rp K H v d → Rp K H' v d
  | .none, _, h => by cases h; exact .non
  | .bool b, _, h => by cases h; exact .bl b
  | .int i, _, h => by cases h; exact .int i
  | .str x, _, h => by cases h
  | .list ds, _, h => by
    cases h with
    | lst hs ha => exact .lst (e _ _ hs) (RpAll.mono e ds _ ha)
  | .tuple ds, _, h => by
    cases h with
    | tup hs ha => exact .tup (e _ _ hs) (RpAll.mono e ds _ ha)
  | .dict kvs, _, h => by
    cases h with
    | dct hs => exact .dct (e _ _ hs)
    | scr hs => exact .scr (e.seq hs)
theorem RpAll.mono (e : Same H H') : ∀ (ds : List PyData) (vs : List V), RpAll K H vs ds → RpAll K H' vs ds
  | [], _, h => by cases h; exact .nil
  | d :: ds, _, h => by
    cases h with
    | cons h1 h2 => exact .cons (Rp.mono e d _ h1) (RpAll.mono e ds _ h2)
end
theorem Rp.up {v : V} {d : PyData} (h : Rp K H v d) (e : Same H H') : Rp K H' v d := Rp.mono e d v h
theorem RpAll.up {vs : List V} {ds : List PyData} (h : RpAll K H vs ds) (e : Same H H') : RpAll K H' vs ds := RpAll.mono e ds vs h
mutual
theorem Rp.toDp : ∀ (d : PyData) (v : V), d.canLay0 = true → Rp K H v d → Dp K H v d
  | .none, _, _, h => by cases h; exact .non
  | .bool b, _, _, h => by cases h; exact .bl b
  | .int i, _, _, h => by cases h; exact .int i
  | .str x, _, _, h => by cases h
  | .list ds, _, c, h => by
    cases h with
    | lst hs ha => exact .lst (.of hs) (RpAll.toDp ds _ c ha)
  | .tuple ds, _, c, h => by
    cases h with
    | tup hs ha => exact .tup (.of hs) (RpAll.toDp ds _ c ha)
  | .dict kvs, _, c, h => by cases c
theorem RpAll.toDp : ∀ (ds : List PyData) (vs : List V), PyData.canLayAll0 ds = true → RpAll K H vs ds → DpAll K H vs ds
  | [], _, _, h => by cases h; exact .nil
  | d :: ds, _, c, h => by
    have c' : (d.canLay0 && PyData.canLayAll0 ds) = true := c
    obtain ⟨c1, c2⟩ := Bool.and_eq_true_iff.mp c'
    cases h with
    | cons h1 h2 => exact .cons (Rp.toDp d _ c1 h1) (RpAll.toDp ds _ c2 h2)
end
theorem Rp.dp {v : V} {d : PyData} (h : Rp K H v d) (c : SeqAt.shaped d = true) : Dp K H v d := Rp.toDp d v (SeqAt.canLay_of_shaped c) h
theorem RpAll.length : ∀ {vs : List V} {ds : List PyData}, RpAll K H vs ds → vs.length = ds.length
  | _, _, .nil => rfl
  | _, _, .cons _ h => congrArg (· + 1) h.length
theorem RpAll.get : ∀ {vs : List V} {ds : List PyData} {i : Nat} {d : PyData}, RpAll K H vs ds → ds[i]? = some d → ∃ v, vs[i]? = some v ∧ Rp K H v d
  | _, _, _, _, .nil, e => by simp at e
  | _, _, 0, _, .cons r _, e => by simp at e; subst e; exact ⟨_, rfl, r⟩
  | _, _, i + 1, d, .cons _ t, e => by
    obtain ⟨u, h1, h2⟩ := RpAll.get (i := i) (d := d) t (by simpa using e)
    exact ⟨u, by simpa using h1, h2⟩
theorem RpAll.getV : ∀ {vs : List V} {ds : List PyData} {i : Nat} {v : V}, RpAll K H vs ds → vs[i]? = some v → ∃ d, ds[i]? = some d ∧ Rp K H v d
  | _, _, _, _, .nil, e => by simp at e
  | _, _, 0, _, .cons r _, e => by simp at e; subst e; exact ⟨_, rfl, r⟩
  | _, _, i + 1, v, .cons _ t, e => by
    obtain ⟨u, h1, h2⟩ := RpAll.getV (i := i) (v := v) t (by simpa using e)
    exact ⟨u, by simpa using h1, h2⟩
theorem RpAll.append : ∀ {xs ys : List V} {us ws : List PyData}, RpAll K H xs us → RpAll K H ys ws → RpAll K H (xs ++ ys) (us ++ ws)
  | _, _, _, _, .nil, s => s
  | _, _, _, _, .cons r t, s => .cons r (RpAll.append t s)
theorem RpAll.take : ∀ {xs : List V} {us : List PyData} (n : Nat), RpAll K H xs us → RpAll K H (xs.take n) (us.take n)
  | _, _, 0, _ => .nil
  | _, _, _ + 1, .nil => .nil
  | _, _, n + 1, .cons r t => .cons r (RpAll.take n t)
theorem RpAll.drop : ∀ {xs : List V} {us : List PyData} (n : Nat), RpAll K H xs us → RpAll K H (xs.drop n) (us.drop n)
  | _, _, 0, r => r
  | _, _, _ + 1, .nil => .nil
  | _, _, n + 1, .cons _ t => RpAll.drop n t
theorem RpAll.set {x : V} {u : PyData} (r : Rp K H x u) : ∀ {xs : List V} {us : List PyData} (i : Nat), RpAll K H xs us → RpAll K H (xs.set i x) (us.set i u)
  | _, _, _, .nil => .nil
  | _, _, 0, .cons _ t => .cons r t
  | _, _, i + 1, .cons q t => .cons q (RpAll.set r i t)
theorem RpAll.one {x : V} {u : PyData} (r : Rp K H x u) : RpAll K H [x] [u] := .cons r .nil
theorem RpAll.of_get : ∀ {vs : List V} {ds : List PyData}, vs.length = ds.length → (∀ (i : Nat) v d, vs[i]? = some v → ds[i]? = some d → Rp K H v d) → RpAll K H vs ds
  | [], [], _, _ => .nil
  | [], _ :: _, h, _ => by simp at h
  | _ :: _, [], h, _ => by simp at h
  | v :: vs, d :: ds, h, f => .cons (f 0 v d rfl rfl) (RpAll.of_get (by simpa using h) fun i v' d' a b => f (i + 1) v' d' (by simpa using a) (by simpa using b))
/-- ints are themselves -/
theorem RpAll.ints : ∀ {vs : List V} {ns : List Int}, RpAll K H vs (ns.map PyData.int) → vs = ns.map V.int
  | _, [], h => by cases h; rfl
  | _, n :: ns, h => by
    cases h with
    | cons h1 h2 =>
      cases h1
      rw [RpAll.ints h2]
      rfl
theorem RpAll.of_ints : ∀ (ns : List Int), RpAll K H (ns.map V.int) (ns.map PyData.int)
  | [] => .nil
  | n :: ns => .cons (.int n) (RpAll.of_ints ns)
end

/-! ### what stands in the slots -/
inductive Mu where
  | ls (ds : List PyData)
  | dt (kvs : List (List Int × V))
  | lk (o : Obj) (kvs : List (List Int × V))
inductive En where
  | un
  | da (d : PyData)
  | ow (l : Addr) (m : Mu)
def kvT (kvs : List (List Int × V)) : List (List Key × V) := kvs.map fun p => (p.1.map Sum.inl, p.2)
def MuOk (K : PySem.W.Frag) (G H : Hp) (l : Addr) : Mu → Prop
  | .ls ds => ∃ xs, H l = some (.lst xs) ∧ RpAll K G xs ds
  | .dt kvs => H l = some (.dT (kvT kvs))
  | .lk o kvs => H l = some (.frz o (.dT (kvT kvs)))
structure Sts (K : PySem.W.Frag) (G H : Hp) (σ : St) (ρ : List En) : Prop where
  len : σ.length = ρ.length
  sub : Same G H
  da : ∀ (i : Nat) d, ρ[i]? = some (.da d) → ∃ v, σ[i]? = some (some v) ∧ Rp K G v d
  ow : ∀ (i : Nat) l m, ρ[i]? = some (.ow l m) → σ[i]? = some (some (.ref l)) ∧ G l = none ∧ MuOk K G H l m
  sep : ∀ (i j : Nat) l m m', ρ[i]? = some (.ow l m) → ρ[j]? = some (.ow l m') → i = j
def Own (ρ : List En) (l : Addr) : Prop := ∃ (i : Nat) (m : Mu), ρ[i]? = some (.ow l m)
def none0 : Addr → Prop := fun _ => False
/-- what became of the heaps, L may be changed -/
structure Fr (L : Addr → Prop) (G H G' H' : Hp) : Prop where
  keep : ∀ a o, H a = some o → ¬ L a → H' a = some o
  there : ∀ a, H a ≠ none → H' a ≠ none
  g : Same G G'
  apart : ∀ a o, G a = none → H a = some o → (∀ xs, o ≠ .tup xs) → ¬ L a → G' a = none
theorem Fr.refl {L : Addr → Prop} {G H : Hp} : Fr L G H G H := ⟨fun _ _ h _ => h, fun _ h => h, Same.refl _, fun _ _ h _ _ _ => h⟩
theorem Fr.free {L : Addr → Prop} {G H G' H' : Hp} (f : Fr L G H G' H') {a : Addr} (h : H' a = none) : H a = none := by
  cases e : H a with
  | none => rfl
  | some o => exact absurd h (f.there a (by rw [e]; exact fun z => nomatch z))
theorem Fr.trans {L L1 : Addr → Prop} {G H G1 H1 G2 H2 : Hp} (a : Fr L G H G1 H1) (b : Fr L1 G1 H1 G2 H2) (h : ∀ l, L1 l → L l ∨ H l = none) : Fr L G H G2 H2 := by
  have no : ∀ {c o}, H c = some o → ¬ L c → ¬ L1 c := fun {c o} e n z => by
    rcases h c z with q | q
    · exact n q
    · rw [e] at q; cases q
  refine ⟨fun c o e n => b.keep c o (a.keep c o e n) (no e n), fun c e => b.there c (a.there c e), a.g.trans b.g, fun c o e1 e2 nt n => ?_⟩
  exact b.apart c o (a.apart c o e1 e2 nt n) (a.keep c o e2 n) nt (no e2 n)
theorem Fr.mono {L L1 : Addr → Prop} {G H G1 H1 : Hp} (a : Fr L G H G1 H1) (h : ∀ l, L l → L1 l) : Fr L1 G H G1 H1 :=
  ⟨fun c o e n => a.keep c o e fun z => n (h c z), a.there, a.g, fun c o e1 e2 nt n => a.apart c o e1 e2 nt fun z => n (h c z)⟩
structure Nx (K : PySem.W.Frag) (G H : Hp) (ρ : List En) (G' H' : Hp) (σ' : St) (ρ' : List En) : Prop where
  st : Sts K G' H' σ' ρ'
  fr : Fr (Own ρ) G H G' H'
  own : ∀ l, Own ρ' l → Own ρ l ∨ H l = none
section
variable {K : PySem.W.Frag} {G H G1 H1 G2 H2 : Hp} {σ σ1 σ2 : St} {ρ ρ1 ρ2 : List En} {p : Addr} {o : HO}
theorem Nx.refl (st : Sts K G H σ ρ) : Nx K G H ρ G H σ ρ := ⟨st, Fr.refl, fun _ h => .inl h⟩
theorem Nx.trans (a : Nx K G H ρ G1 H1 σ1 ρ1) (b : Nx K G1 H1 ρ1 G2 H2 σ2 ρ2) : Nx K G H ρ G2 H2 σ2 ρ2 :=
  ⟨b.st, a.fr.trans b.fr a.own, fun l h => by
    rcases b.own l h with q | q
    · exact a.own l q
    · exact .inr (a.fr.free q)⟩
theorem MuOk.up {m : Mu} {l : Addr} (h : MuOk K G H l m) (e : Same G G1) (f : H1 l = H l) : MuOk K G1 H1 l m := by
  cases m with
  | ls ds =>
    obtain ⟨xs, h1, h2⟩ := h
    exact ⟨xs, f.trans h1, h2.up e⟩
  | dt kvs => exact f.trans h
  | lk ob kvs => exact f.trans h
theorem MuOk.some {m : Mu} {l : Addr} (h : MuOk K G H l m) : ∃ o, H l = some o ∧ ∀ xs, o ≠ .tup xs := by
  cases m with
  | ls ds => obtain ⟨xs, h1, _⟩ := h; exact ⟨_, h1, fun _ e => nomatch e⟩
  | dt kvs => exact ⟨_, h, fun _ e => nomatch e⟩
  | lk ob kvs => exact ⟨_, h, fun _ e => nomatch e⟩
/-- the owned things as they were -/
theorem Sts.fr (st : Sts K G H σ ρ) (e : Same G G1) (s : Same G1 H1) (k : ∀ l, Own ρ l → H1 l = H l ∧ G1 l = none) : Sts K G1 H1 σ ρ :=
  ⟨st.len, s, fun i d h => let ⟨v, h1, h2⟩ := st.da i d h; ⟨v, h1, h2.up e⟩, fun i l m h => let ⟨h1, h2, h3⟩ := st.ow i l m h; let ⟨k1, k2⟩ := k l ⟨i, m, h⟩; ⟨h1, k2, h3.up e k1⟩, st.sep⟩
/-- a pure step -/
theorem Nx.pure (st : Sts K G H σ ρ) (f : Fr none0 G H G1 H1) (s : Same G1 H1) : Nx K G H ρ G1 H1 σ ρ := by
  refine ⟨st.fr f.g s fun l ⟨i, m, h⟩ => ?_, f.mono fun _ z => z.elim, fun _ h => .inl h⟩
  obtain ⟨h1, h2, h3⟩ := st.ow i l m h
  obtain ⟨ob, e, nt⟩ := h3.some
  exact ⟨by rw [e]; exact f.keep l ob e (fun z => z), f.apart l ob h2 e nt fun z => z⟩
theorem same_new (h : H p = none) : Same H (upd H p o) := fun b x e => by
  rw [upd_ne (ne_of_none e h)]
  exact e
theorem same_upd (s : Same G H) (h : H p = none) : Same (upd G p o) (upd H p o) := fun b x e => by
  by_cases hb : b = p
  · subst hb
    rw [upd_same] at e ⊢
    exact e
  · rw [upd_ne hb] at e ⊢
    exact s _ _ e
theorem there_new (h : H p = none) : ∀ a, H a ≠ none → upd H p o a ≠ none := fun a e => by
  have ne : a ≠ p := fun z => e (z ▸ h)
  rw [upd_ne ne]
  exact e
/-- a new thing, known to G -/
theorem Fr.newG (s : Same G H) (h : H p = none) : Fr none0 G H (upd G p o) (upd H p o) :=
  ⟨fun a x e _ => by rw [upd_ne (ne_of_none e h)]; exact e, there_new h, same_new (s.free h), fun a x e1 e2 _ _ => by
    rw [upd_ne (ne_of_none e2 h)]
    exact e1⟩
/-- a new thing, not known to G -/
theorem Fr.newH (h : H p = none) : Fr none0 G H G (upd H p o) :=
  ⟨fun a x e _ => by rw [upd_ne (ne_of_none e h)]; exact e, there_new h, Same.refl _, fun a x e1 _ _ _ => e1⟩
theorem Nx.newG (st : Sts K G H σ ρ) (h : H p = none) : Nx K G H ρ (upd G p o) (upd H p o) σ ρ := Nx.pure st (Fr.newG st.sub h) (same_upd st.sub h)
theorem Nx.newH (st : Sts K G H σ ρ) (h : H p = none) : Nx K G H ρ G (upd H p o) σ ρ := Nx.pure st (Fr.newH h) (st.sub.trans (same_new h))
/-- a tuple of the heap that G does not know is told to it -/
theorem Nx.tell {xs : List V} (st : Sts K G H σ ρ) (h : H p = some (.tup xs)) : Nx K G H ρ (upd G p (.tup xs)) H σ ρ := by
  by_cases hg : G p = none
  · refine Nx.pure st ⟨fun _ _ e _ => e, fun _ e => e, same_new hg, fun a x e1 e2 nt _ => ?_⟩ fun b x e => ?_
    · by_cases ha : a = p
      · subst ha; rw [h] at e2; cases e2; exact absurd rfl (nt xs)
      · rw [upd_ne ha]; exact e1
    · by_cases hb : b = p
      · subst hb; rw [upd_same] at e; rw [h]; exact e
      · rw [upd_ne hb] at e; exact st.sub _ _ e
  · have e : G p = some (.tup xs) := by
      cases q : G p with
      | none => exact absurd q hg
      | some u => have := st.sub _ _ q; rw [h] at this; exact this.symm
    have : upd G p (.tup xs) = G := by
      funext b
      unfold upd
      split
      · rename_i z; rw [z, e]
      · rfl
    rw [this]
    exact Nx.refl st
theorem get_set_ne {α : Type} {l : List α} {i j : Nat} {x : α} (h : i ≠ j) : (l.set i x)[j]? = l[j]? := List.getElem?_set_ne h
theorem Sts.setDa {i : Nat} {v : V} {d : PyData} (st : Sts K G H σ ρ) (r : Rp K G v d) : Sts K G H (σ.set i (some v)) (ρ.set i (.da d)) := by
  refine ⟨by rw [List.length_set, List.length_set]; exact st.len, st.sub, fun j e h => ?_, fun j l m h => ?_, fun j k l m m' h1 h2 => ?_⟩
  · by_cases hj : i = j
    · subst hj
      have hl : i < ρ.length := by
        have := (List.getElem?_eq_some_iff.mp h).1
        rw [List.length_set] at this
        exact this
      rw [List.getElem?_set_self hl] at h
      cases h
      exact ⟨v, List.getElem?_set_self (by rw [st.len]; exact hl), r⟩
    · rw [get_set_ne hj] at h ⊢
      exact st.da j e h
  · by_cases hj : i = j
    · subst hj
      have hl : i < ρ.length := by
        have := (List.getElem?_eq_some_iff.mp h).1
        rw [List.length_set] at this
        exact this
      rw [List.getElem?_set_self hl] at h
      cases h
    · rw [get_set_ne hj] at h ⊢
      exact st.ow j l m h
  · have f : ∀ {j : Nat} {m : Mu}, (ρ.set i (.da d))[j]? = some (.ow l m) → ρ[j]? = some (.ow l m) := fun {j m} h => by
      by_cases hj : i = j
      · subst hj
        have hl : i < ρ.length := by
          have := (List.getElem?_eq_some_iff.mp h).1
          rw [List.length_set] at this
          exact this
        rw [List.getElem?_set_self hl] at h
        cases h
      · rw [get_set_ne hj] at h
        exact h
    exact st.sep j k l m m' (f h1) (f h2)
theorem own_set {i : Nat} {e : En} {l : Addr} (h : Own (ρ.set i e) l) : Own ρ l ∨ ∃ m, e = .ow l m := by
  obtain ⟨j, m, h⟩ := h
  by_cases hj : i = j
  · subst hj
    have hl : i < ρ.length := by
      have := (List.getElem?_eq_some_iff.mp h).1
      rw [List.length_set] at this
      exact this
    rw [List.getElem?_set_self hl] at h
    cases h
    exact .inr ⟨m, rfl⟩
  · rw [get_set_ne hj] at h
    exact .inl ⟨j, m, h⟩
theorem Nx.setDa {i : Nat} {v : V} {d : PyData} (st : Sts K G H σ ρ) (r : Rp K G v d) : Nx K G H ρ G H (σ.set i (some v)) (ρ.set i (.da d)) :=
  ⟨st.setDa r, Fr.refl, fun l h => .inl ((own_set h).elim id fun ⟨_, z⟩ => nomatch z)⟩
theorem Sts.setUn {i : Nat} (st : Sts K G H σ ρ) : Sts K G H (σ.set i none) (ρ.set i .un) := by
  have f : ∀ {j : Nat} {e : En}, (ρ.set i .un)[j]? = some e → e ≠ .un → i ≠ j ∧ ρ[j]? = some e := fun {j e} h n => by
    by_cases hj : i = j
    · subst hj
      have hl : i < ρ.length := by
        have := (List.getElem?_eq_some_iff.mp h).1
        rw [List.length_set] at this
        exact this
      rw [List.getElem?_set_self hl] at h
      cases h
      exact absurd rfl n
    · rw [get_set_ne hj] at h
      exact ⟨hj, h⟩
  refine ⟨by rw [List.length_set, List.length_set]; exact st.len, st.sub, fun j e h => ?_, fun j l m h => ?_, fun j k l m m' h1 h2 => ?_⟩
  · obtain ⟨hj, h⟩ := f h (fun z => nomatch z)
    rw [get_set_ne hj]
    exact st.da j e h
  · obtain ⟨hj, h⟩ := f h (fun z => nomatch z)
    rw [get_set_ne hj]
    exact st.ow j l m h
  · exact st.sep j k l m m' (f h1 fun z => nomatch z).2 (f h2 fun z => nomatch z).2
/-- an owned thing at the slot i, its content as the heap has it -/
theorem Sts.setOw {i : Nat} {m : Mu} (st : Sts K G H σ ρ) (hg : G p = none) (hm : MuOk K G H p m) (no : ∀ (j : Nat) m', ρ[j]? = some (.ow p m') → j = i) : Sts K G H (σ.set i (some (.ref p))) (ρ.set i (.ow p m)) := by
  have f : ∀ {j : Nat} {e : En}, (ρ.set i (.ow p m))[j]? = some e → (i = j ∧ e = .ow p m ∧ i < ρ.length) ∨ (i ≠ j ∧ ρ[j]? = some e) := fun {j e} h => by
    by_cases hj : i = j
    · subst hj
      have hl : i < ρ.length := by
        have := (List.getElem?_eq_some_iff.mp h).1
        rw [List.length_set] at this
        exact this
      rw [List.getElem?_set_self hl] at h
      cases h
      exact .inl ⟨rfl, rfl, hl⟩
    · rw [get_set_ne hj] at h
      exact .inr ⟨hj, h⟩
  refine ⟨by rw [List.length_set, List.length_set]; exact st.len, st.sub, fun j e h => ?_, fun j l m' h => ?_, fun j k l m1 m2 h1 h2 => ?_⟩
  · rcases f h with ⟨_, z, _⟩ | ⟨hj, h⟩
    · cases z
    · rw [get_set_ne hj]; exact st.da j e h
  · rcases f h with ⟨hj, z, hl⟩ | ⟨hj, h⟩
    · cases z
      subst hj
      exact ⟨List.getElem?_set_self (by rw [st.len]; exact hl), hg, hm⟩
    · rw [get_set_ne hj]; exact st.ow j l m' h
  · rcases f h1 with ⟨e1, z1, _⟩ | ⟨e1, h1⟩ <;> rcases f h2 with ⟨e2, z2, _⟩ | ⟨e2, h2⟩
    · exact e1.symm.trans e2
    · cases z1; exact absurd (no k _ h2).symm e2
    · cases z2; exact absurd (no j _ h1).symm e1
    · exact st.sep j k l m1 m2 h1 h2
end
end Lv
/-! Lv2: what readings do to data; the rules of expressions and statements. -/
namespace Lv
open PySem PySem.Spec PyProof.Rows L2

def Br (b : Bool) (p q : Prop) : Prop := (b = true → p) ∧ (b = false → q)
theorem Br.t {p q : Prop} (h : p) : Br true p q := ⟨fun _ => h, fun z => nomatch z⟩
theorem Br.f {p q : Prop} (h : q) : Br false p q := ⟨(fun z => nomatch z), fun _ => h⟩
theorem Br.dec {c p q : Prop} [Decidable c] (h1 : c → p) (h2 : ¬ c → q) : Br (decide c) p q := ⟨fun e => h1 (of_decide_eq_true e), fun e => h2 (of_decide_eq_false e)⟩

abbrev Pd := PyData → List En → Prop
def Ev (K : PySem.W.Frag) (te : TE) (ρ : List En) (P : Pd) : Prop :=
  ∀ (G H : Hp) (σ : St) (Q : VK), Sts K G H σ ρ → (∀ v d ρ' G' H', Nx K G H ρ G' H' σ ρ' → Rp K G' v d → P d ρ' → Q v H') → te σ H Q
def EvT (K : PySem.W.Frag) (tt : TT) (ρ : List En) (P : Bool → List En → Prop) : Prop :=
  ∀ (G H : Hp) (σ : St) (Q : Bool → Hp → Prop), Sts K G H σ ρ → (∀ b ρ' G' H', Nx K G H ρ G' H' σ ρ' → P b ρ' → Q b H') → tt σ H Q
def EvA (K : PySem.W.Frag) (ta : TA) (ρ : List En) (P : List PyData → List En → Prop) : Prop :=
  ∀ (G H : Hp) (σ : St) (Q : List V → Hp → Prop), Sts K G H σ ρ → (∀ vs ds ρ' G' H', Nx K G H ρ G' H' σ ρ' → RpAll K G' vs ds → P ds ρ' → Q vs H') → ta σ H Q
def EvO (K : PySem.W.Frag) (to : TO) (ρ : List En) (P : Option Int → List En → Prop) : Prop :=
  ∀ (G H : Hp) (σ : St) (Q : Option Int → Hp → Prop), Sts K G H σ ρ → (∀ o ρ' G' H', Nx K G H ρ G' H' σ ρ' → P o ρ' → Q o H') → to σ H Q
/-- a two-place operation, a one-place one, a call, by data -/
def RD (K : PySem.W.Frag) (r : R2) (x y : PyData) (ρ : List En) (P : Pd) : Prop :=
  ∀ (G H : Hp) (σ : St) (u v : V) (Q : VK), Sts K G H σ ρ → Rp K G u x → Rp K G v y → (∀ w d ρ' G' H', Nx K G H ρ G' H' σ ρ' → Rp K G' w d → P d ρ' → Q w H') → r u v H Q
def RU (K : PySem.W.Frag) (r : V → Hp → VK → Prop) (x : PyData) (ρ : List En) (P : Pd) : Prop :=
  ∀ (G H : Hp) (σ : St) (u : V) (Q : VK), Sts K G H σ ρ → Rp K G u x → (∀ w d ρ' G' H', Nx K G H ρ G' H' σ ρ' → Rp K G' w d → P d ρ' → Q w H') → r u H Q
def RC (K : PySem.W.Frag) (r : List V → Hp → VK → Prop) (ds : List PyData) (ρ : List En) (P : Pd) : Prop :=
  ∀ (G H : Hp) (σ : St) (us : List V) (Q : VK), Sts K G H σ ρ → RpAll K G us ds → (∀ w d ρ' G' H', Nx K G H ρ G' H' σ ρ' → Rp K G' w d → P d ρ' → Q w H') → r us H Q
def RS (K : PySem.W.Frag) (r : V → Option Int → Option Int → Hp → VK → Prop) (x : PyData) (lo hi : Option Int) (ρ : List En) (P : Pd) : Prop :=
  ∀ (G H : Hp) (σ : St) (u : V) (Q : VK), Sts K G H σ ρ → Rp K G u x → (∀ w d ρ' G' H', Nx K G H ρ G' H' σ ρ' → Rp K G' w d → P d ρ' → Q w H') → r u lo hi H Q

section
variable {K : PySem.W.Frag} {ρ : List En} {P : Pd} {ta tb tc te : TE} {t u : TT} {i : Nat} {l : Addr} {d x y : PyData} {ds : List PyData} {r r' : R2}

/-! ### names, constants -/
theorem ev_var (h : ρ[i]? = some (.da d)) (q : P d ρ) : Ev K (tVar i) ρ P := fun G H σ Q st k =>
  let ⟨v, e, r⟩ := st.da i d h
  ⟨v, e, k v d ρ G H (Nx.refl st) r q⟩
theorem ev_int {n : Int} (q : P (.int n) ρ) : Ev K (tC (.int n)) ρ P := fun G H σ Q st k => k _ _ ρ G H (Nx.refl st) (.int n) q
theorem ev_bl {b : Bool} (q : P (.bool b) ρ) : Ev K (tC (.bl b)) ρ P := fun G H σ Q st k => k _ _ ρ G H (Nx.refl st) (.bl b) q
theorem ev_non (q : P .none ρ) : Ev K (tC .non) ρ P := fun G H σ Q st k => k _ _ ρ G H (Nx.refl st) .non q
theorem Sts.take {G H : Hp} {σ : St} (st : Sts K G H σ ρ) (h : ρ[i]? = some (.ow l (.ls ds))) :
    ∃ xs, σ[i]? = some (some (.ref l)) ∧ RpAll K G xs ds ∧ H l = some (.lst xs) ∧ Nx K G H ρ (upd G l (.lst xs)) H σ (ρ.set i (.da (.list ds))) := by
  obtain ⟨e1, e2, xs, e3, e4⟩ := st.ow i l _ h
  have hl : i < ρ.length := (List.getElem?_eq_some_iff.mp h).1
  have hs : Same G (upd G l (.lst xs)) := same_new e2
  refine ⟨xs, e1, e4, e3, ⟨⟨by rw [List.length_set]; exact st.len, fun b z e => ?_, fun j d' hj => ?_, fun j l' m hj => ?_, fun j k l' m m' h1 h2 => ?_⟩, ⟨fun _ _ e _ => e, fun _ e => e, hs, fun a o g1 g2 nt n => ?_⟩, fun l' hl' => .inl ((own_set hl').elim id fun ⟨_, z⟩ => nomatch z)⟩⟩
  · by_cases hb : b = l
    · subst hb; rw [upd_same] at e; rw [e3]; exact e
    · rw [upd_ne hb] at e; exact st.sub _ _ e
  · by_cases hij : i = j
    · subst hij
      rw [List.getElem?_set_self hl] at hj
      cases hj
      exact ⟨.ref l, e1, .lst upd_same (e4.up hs)⟩
    · rw [get_set_ne hij] at hj
      obtain ⟨v, a, b⟩ := st.da j d' hj
      exact ⟨v, a, b.up hs⟩
  · by_cases hij : i = j
    · subst hij
      rw [List.getElem?_set_self hl] at hj
      cases hj
    · rw [get_set_ne hij] at hj
      obtain ⟨a, b, c⟩ := st.ow j l' m hj
      have hne : l' ≠ l := fun z => by
        subst z
        exact hij (st.sep i j l' _ _ h hj)
      exact ⟨a, by rw [upd_ne hne]; exact b, c.up hs rfl⟩
  · have f : ∀ {j : Nat} {m : Mu}, (ρ.set i (.da (.list ds)))[j]? = some (.ow l' m) → ρ[j]? = some (.ow l' m) := fun {j m} h => by
      by_cases hij : i = j
      · subst hij
        rw [List.getElem?_set_self hl] at h
        cases h
      · rw [get_set_ne hij] at h
        exact h
    exact st.sep j k l' m m' (f h1) (f h2)
  · have hne : a ≠ l := fun z => by
      subst z
      exact n ⟨i, _, h⟩
    rw [upd_ne hne]
    exact g1
/-- an owned list is given away: data from here on -/
theorem ev_take (h : ρ[i]? = some (.ow l (.ls ds))) (q : P (.list ds) (ρ.set i (.da (.list ds)))) : Ev K (tVar i) ρ P := fun G H σ Q st k => by
  obtain ⟨xs, e1, e4, e3, n⟩ := st.take h
  exact ⟨.ref l, e1, k _ _ _ _ _ n (.lst upd_same (e4.up n.fr.g)) q⟩

/-! ### operations -/
theorem ev_op (h : Ev K ta ρ fun x ρ1 => Ev K tb ρ1 fun y ρ2 => RD K r x y ρ2 P) : Ev K (tOp r ta tb) ρ P := fun G H σ Q st k =>
  h G H σ _ st fun u x ρ1 G1 H1 n1 r1 p1 => p1 G1 H1 σ _ n1.st fun v y ρ2 G2 H2 n2 r2 p2 =>
    p2 G2 H2 σ u v Q n2.st (r1.up n2.fr.g) r2 fun w d ρ3 G3 H3 n3 r3 p3 => k w d ρ3 G3 H3 ((n1.trans n2).trans n3) r3 p3
theorem ev_un {ru : V → Hp → VK → Prop} (h : Ev K ta ρ fun x ρ1 => RU K ru x ρ1 P) : Ev K (tUn ru ta) ρ P := fun G H σ Q st k =>
  h G H σ _ st fun u x ρ1 G1 H1 n1 r1 p1 => p1 G1 H1 σ u Q n1.st r1 fun w d ρ3 G3 H3 n3 r3 p3 => k w d ρ3 G3 H3 (n1.trans n3) r3 p3
theorem rd_i {f : Int → Int → Int} {a b : Int} (q : P (.int (f a b)) ρ) : RD K (rI0 fun i j => .int (f i j)) (.int a) (.int b) ρ P := fun G H σ u v Q st ru rv k => by
  cases ru
  cases rv
  exact ⟨a, b, rfl, rfl, k _ _ ρ G H (Nx.refl st) (.int _) q⟩
theorem rd_b {f : Int → Int → Bool} {a b : Int} (q : P (.bool (f a b)) ρ) : RD K (rI0 fun i j => .bl (f i j)) (.int a) (.int b) ρ P := fun G H σ u v Q st ru rv k => by
  cases ru
  cases rv
  exact ⟨a, b, rfl, rfl, k _ _ ρ G H (Nx.refl st) (.bl _) q⟩
theorem rd_c {C : Int → Int → Prop} {f : Int → Int → Int} {a b : Int} (hc : C a b) (q : P (.int (f a b)) ρ) : RD K (rI C fun i j => .int (f i j)) (.int a) (.int b) ρ P := fun G H σ u v Q st ru rv k => by
  cases ru
  cases rv
  exact ⟨a, b, rfl, rfl, hc, k _ _ ρ G H (Nx.refl st) (.int _) q⟩
theorem ru_neg {n : Int} (q : P (.int (-n)) ρ) : RU K (rU fun i => .int (-i)) (.int n) ρ P := fun G H σ u Q st ru k => by
  cases ru
  exact ⟨n, rfl, k _ _ ρ G H (Nx.refl st) (.int _) q⟩
theorem rd_eq (hx : SeqAt.shaped x = true) (hy : SeqAt.shaped y = true) (q : P (.bool (PyData.eqv x y)) ρ) : RD K (rEqD K) x y ρ P := fun G H σ u v Q st ru rv k =>
  ⟨x, y, (ru.up st.sub).dp hx, (rv.up st.sub).dp hy, hx, hy, k _ _ ρ G H (Nx.refl st) (.bl _) q⟩
theorem rd_ne (hx : SeqAt.shaped x = true) (hy : SeqAt.shaped y = true) (q : P (.bool (!PyData.eqv x y)) ρ) : RD K (rNeD K) x y ρ P := fun G H σ u v Q st ru rv k =>
  ⟨x, y, (ru.up st.sub).dp hx, (rv.up st.sub).dp hy, hx, hy, k _ _ ρ G H (Nx.refl st) (.bl _) q⟩
theorem rd_ni {es : List PyData} (hx : SeqAt.shaped x = true) (hy : SeqAt.shaped (.list es) = true) (q : P (.bool (!es.any fun z => PyData.eqv z x)) ρ) : RD K (rNotInD K) x (.list es) ρ P := fun G H σ u v Q st ru rv k =>
  ⟨x, es, (ru.up st.sub).dp hx, (rv.up st.sub).dp hy, hx, hy, k _ _ ρ G H (Nx.refl st) (.bl _) q⟩
/-- is None, is not None -/
def nonB : PyData → Bool
  | .none => true
  | _ => false
theorem Rp.non_iff {G : Hp} {v : V} {d : PyData} (h : Rp K G v d) : decide (v = .non) = nonB d := by
  cases h <;> rfl
theorem rd_isN (q : P (.bool (nonB x)) ρ) : RD K (fun x y H Q => y = .non ∧ Q (.bl (decide (x = .non))) H) x .none ρ P := fun G H σ u v Q st ru rv k => by
  cases rv
  exact ⟨rfl, by rw [ru.non_iff]; exact k _ _ ρ G H (Nx.refl st) (.bl _) q⟩
theorem rd_notN (q : P (.bool (!nonB x)) ρ) : RD K (fun x y H Q => y = .non ∧ Q (.bl (!decide (x = .non))) H) x .none ρ P := fun G H σ u v Q st ru rv k => by
  cases rv
  exact ⟨rfl, by rw [ru.non_iff]; exact k _ _ ρ G H (Nx.refl st) (.bl _) q⟩
theorem atI_rp {G : Hp} {xs : List V} {n : Int} (h : RpAll K G xs ds) (e : atI ds n = some d) : ∃ v, atI xs n = some v ∧ Rp K G v d := by
  unfold atI at e ⊢
  rw [← h.length] at e
  cases z : ixN xs.length n with
  | none => rw [z] at e; cases e
  | some j =>
    rw [z] at e
    obtain ⟨v, h1, h2⟩ := h.get e
    exact ⟨v, h1, h2⟩
theorem rd_ixT {n : Int} (h : atI ds n = some d) (q : P d ρ) : RD K (rIx K) (.tuple ds) (.int n) ρ P := fun G H σ u v Q st ru rv k => by
  cases rv
  cases ru with
  | tup hs ha =>
    obtain ⟨w, e, rw'⟩ := atI_rp ha h
    exact .inr (.inl ⟨_, _, n, w, rfl, rfl, .of (st.sub _ _ hs), e, k w d ρ G H (Nx.refl st) rw' q⟩)
theorem rd_ixL {n : Int} (h : atI ds n = some d) (q : P d ρ) : RD K (rIx K) (.list ds) (.int n) ρ P := fun G H σ u v Q st ru rv k => by
  cases rv
  cases ru with
  | lst hs ha =>
    obtain ⟨w, e, rw'⟩ := atI_rp ha h
    exact .inl ⟨_, _, n, w, rfl, rfl, .of (st.sub _ _ hs), e, k w d ρ G H (Nx.refl st) rw' q⟩
/-- the script's items -/
def scrD (ns : List Int) : PyData := .dict [(.none, .list (ns.map PyData.int))]
theorem rd_ixS {ns : List Int} {n m : Int} (h : atI ns n = some m) (q : P (.int m) ρ) : RD K (rIx K) (scrD ns) (.int n) ρ P := fun G H σ u v Q st ru rv k => by
  cases rv
  obtain ⟨a, ns', e1, e2, hs⟩ : ∃ (a : Addr) (ns' : List Int), u = .ref a ∧ ns'.map PyData.int = ns.map PyData.int ∧ SqL K G a (ns'.map V.int) := by
    generalize hz : scrD ns = z at ru
    cases ru with
    | scr hs =>
      unfold scrD at hz
      injection hz with h1
      injection h1 with h2 _
      injection h2 with _ h4
      injection h4 with h5
      exact ⟨_, _, rfl, h5.symm, hs⟩
    | _ => cases hz
  have e3 : ns' = ns := List.map_inj_right (fun _ _ z => by cases z; rfl) |>.mp e2
  subst e1 e3
  refine .inl ⟨_, _, n, .int m, rfl, rfl, st.sub.seq hs, ?_, k _ _ ρ G H (Nx.refl st) (.int m) q⟩
  unfold atI at h ⊢
  rw [List.length_map]
  cases z : ixN ns'.length n with
  | none => rw [z] at h; cases h
  | some j =>
    rw [z] at h
    show (ns'.map V.int)[j]? = some (V.int m)
    rw [List.getElem?_map, show ns'[j]? = some m from h]
    rfl
/-- an item of an owned list -/
theorem ev_ixO (h : Ev K tb ρ fun y ρ1 => ∃ (n : Int) (l : Addr) (es : List PyData) (d : PyData), y = .int n ∧ ρ1[i]? = some (.ow l (.ls es)) ∧ ρ[i]? = some (.ow l (.ls es)) ∧ atI es n = some d ∧ P d ρ1)
    (h0 : ∃ (l : Addr) (es : List PyData), ρ[i]? = some (.ow l (.ls es))) : Ev K (tOp (rIx K) (tVar i) tb) ρ P := fun G H σ Q st k => by
  obtain ⟨l0, es0, h0⟩ := h0
  obtain ⟨e1, e2, xs, e3, e4⟩ := st.ow i l0 _ h0
  refine ⟨.ref l0, e1, h G H σ _ st fun v y ρ1 G1 H1 n1 r1 ⟨n, l, es, d, ey, p1, p0, pa, p⟩ => ?_⟩
  subst ey
  cases r1
  rw [h0] at p0
  cases p0
  obtain ⟨f1, f2, ys, f3, f4⟩ := n1.st.ow i l0 _ p1
  obtain ⟨w, ew, rw'⟩ := atI_rp f4 pa
  exact .inl ⟨_, _, n, w, rfl, rfl, .of f3, ew, k w d ρ1 G1 H1 n1 rw' p⟩
theorem rd_cat {es : List PyData} (hz : ds.length + es.length ≤ 100000) (q : P (.list (ds ++ es)) ρ) : RD K rCat (.list ds) (.list es) ρ P := fun G H σ u v Q st ru rv k => by
  cases ru with
  | lst hs ha =>
    cases rv with
    | lst hs2 ha2 =>
      refine ⟨_, _, _, _, rfl, rfl, st.sub _ _ hs, st.sub _ _ hs2, by rw [ha.length, ha2.length]; exact Nat.le_trans hz (by decide), fun p hp => ?_⟩
      exact k _ _ _ _ _ (Nx.newG st hp) (.lst upd_same ((ha.append ha2).up (same_new (st.sub.free hp)))) q
theorem rd_catT {es : List PyData} (hz : ds.length + es.length ≤ 100000) (q : P (.tuple (ds ++ es)) ρ) : RD K (rCatA K) (.tuple ds) (.tuple es) ρ P := fun G H σ u v Q st ru rv k => by
  cases ru with
  | @tup a xs _ hs ha =>
    cases rv with
    | @tup b ys _ hs2 ha2 =>
      refine ⟨_, _, _, _, rfl, rfl, .of (st.sub _ _ hs), .of (st.sub _ _ hs2), by rw [ha.length, ha2.length]; exact Nat.le_trans hz (by decide), fun e => ?_, fun n e => ?_, fun _ _ p hp => ?_⟩
      · subst e
        cases ha
        exact k _ _ ρ G H (Nx.refl st) (.tup hs2 ha2) q
      · subst e
        cases ha2
        rw [List.append_nil] at q
        exact k _ _ ρ G H (Nx.refl st) (.tup hs ha) q
      · exact k _ _ _ _ _ (Nx.newG st hp) (.tup upd_same ((ha.append ha2).up (same_new (st.sub.free hp)))) q

/-! ### tests, and, or, not, if -/
variable {PT : Bool → List En → Prop}
theorem et_test (h : Ev K te ρ fun d ρ1 => ∃ b, d = .bool b ∧ PT b ρ1) : EvT K (tTest te) ρ PT := fun G H σ Q st k =>
  h G H σ _ st fun v d ρ1 G1 H1 n1 r1 ⟨b, e, p⟩ => by
    subst e
    cases r1
    exact ⟨b, rfl, k b ρ1 G1 H1 n1 p⟩
theorem et_B (h : Ev K te ρ fun d ρ1 => ∃ b, d = .bool b ∧ PT b ρ1) : EvT K (tB te) ρ PT := fun G H σ Q st k =>
  h G H σ _ st fun v d ρ1 G1 H1 n1 r1 ⟨b, e, p⟩ => by
    subst e
    cases r1
    exact ⟨b, rfl, k b ρ1 G1 H1 n1 p⟩
theorem et_yes (q : PT true ρ) : EvT K tYes ρ PT := fun G H σ Q st k => k true ρ G H (Nx.refl st) q
theorem et_and (h : EvT K t ρ fun a ρ1 => Br a (EvT K u ρ1 PT) (PT false ρ1)) : EvT K (tAnd t u) ρ PT := fun G H σ Q st k =>
  h G H σ _ st fun a ρ1 G1 H1 n1 ⟨p1, p2⟩ => by
    cases a with
    | true => exact iteT (p1 rfl G1 H1 σ Q n1.st fun b ρ2 G2 H2 n2 p => k b ρ2 G2 H2 (n1.trans n2) p)
    | false => exact iteF (k false ρ1 G1 H1 n1 (p2 rfl))
theorem et_or (h : EvT K t ρ fun a ρ1 => Br a (PT true ρ1) (EvT K u ρ1 PT)) : EvT K (tOr t u) ρ PT := fun G H σ Q st k =>
  h G H σ _ st fun a ρ1 G1 H1 n1 ⟨p1, p2⟩ => by
    cases a with
    | true => exact iteT (k true ρ1 G1 H1 n1 (p1 rfl))
    | false => exact iteF (p2 rfl G1 H1 σ Q n1.st fun b ρ2 G2 H2 n2 p => k b ρ2 G2 H2 (n1.trans n2) p)
theorem et_not (h : EvT K t ρ fun a ρ1 => PT (!a) ρ1) : EvT K (tNot t) ρ PT := fun G H σ Q st k =>
  h G H σ _ st fun a ρ1 G1 H1 n1 p => k (!a) ρ1 G1 H1 n1 p
theorem ev_andV (h : Ev K ta ρ fun d ρ1 => ∃ a, d = .bool a ∧ Br a (Ev K tb ρ1 P) (P (.bool false) ρ1)) : Ev K (tAndV ta tb) ρ P := fun G H σ Q st k =>
  h G H σ _ st fun v d ρ1 G1 H1 n1 r1 ⟨a, e, p1, p2⟩ => by
    subst e
    cases r1
    refine ⟨a, rfl, ?_⟩
    cases a with
    | true => exact iteT (p1 rfl G1 H1 σ Q n1.st fun v d ρ2 G2 H2 n2 r2 p => k v d ρ2 G2 H2 (n1.trans n2) r2 p)
    | false => exact iteF (k _ _ ρ1 G1 H1 n1 (.bl false) (p2 rfl))
theorem ev_orV (h : Ev K ta ρ fun d ρ1 => ∃ a, d = .bool a ∧ Br a (P (.bool true) ρ1) (Ev K tb ρ1 P)) : Ev K (tOrV ta tb) ρ P := fun G H σ Q st k =>
  h G H σ _ st fun v d ρ1 G1 H1 n1 r1 ⟨a, e, p1, p2⟩ => by
    subst e
    cases r1
    refine ⟨a, rfl, ?_⟩
    cases a with
    | true => exact iteT (k _ _ ρ1 G1 H1 n1 (.bl true) (p1 rfl))
    | false => exact iteF (p2 rfl G1 H1 σ Q n1.st fun v d ρ2 G2 H2 n2 r2 p => k v d ρ2 G2 H2 (n1.trans n2) r2 p)
theorem ev_notV (h : Ev K ta ρ fun d ρ1 => ∃ a, d = .bool a ∧ P (.bool (!a)) ρ1) : Ev K (tNotV ta) ρ P := fun G H σ Q st k =>
  h G H σ _ st fun v d ρ1 G1 H1 n1 r1 ⟨a, e, p⟩ => by
    subst e
    cases r1
    exact ⟨a, rfl, k _ _ ρ1 G1 H1 n1 (.bl _) p⟩
theorem ev_if (h : EvT K t ρ fun a ρ1 => Br a (Ev K ta ρ1 P) (Ev K tb ρ1 P)) : Ev K (tIf t ta tb) ρ P := fun G H σ Q st k =>
  h G H σ _ st fun a ρ1 G1 H1 n1 ⟨p1, p2⟩ => by
    cases a with
    | true => exact iteT (p1 rfl G1 H1 σ Q n1.st fun v d ρ2 G2 H2 n2 r2 p => k v d ρ2 G2 H2 (n1.trans n2) r2 p)
    | false => exact iteF (p2 rfl G1 H1 σ Q n1.st fun v d ρ2 G2 H2 n2 r2 p => k v d ρ2 G2 H2 (n1.trans n2) r2 p)
theorem ev_chain (h : Ev K ta ρ fun x ρ1 => Ev K tb ρ1 fun y ρ2 => RD K r x y ρ2 fun z ρ3 => ∃ a, z = .bool a ∧ Br a (Ev K tc ρ3 fun w ρ4 => RD K r' y w ρ4 P) (P (.bool false) ρ3)) : Ev K (tChain r r' ta tb tc) ρ P := fun G H σ Q st k =>
  h G H σ _ st fun u x ρ1 G1 H1 n1 r1 p1 => p1 G1 H1 σ _ n1.st fun v y ρ2 G2 H2 n2 r2 p2 =>
    p2 G2 H2 σ u v _ n2.st (r1.up n2.fr.g) r2 fun z d ρ3 G3 H3 n3 r3 ⟨a, e, q1, q2⟩ => by
      subst e
      cases r3
      refine ⟨a, rfl, ?_⟩
      cases a with
      | true =>
        exact iteT (q1 rfl G3 H3 σ _ n3.st fun w' d' ρ4 G4 H4 n4 r4 p4 => p4 G4 H4 σ v w' Q n4.st ((r2.up n3.fr.g).up n4.fr.g) r4 fun w d ρ5 G5 H5 n5 r5 p5 =>
          k w d ρ5 G5 H5 ((((n1.trans n2).trans n3).trans n4).trans n5) r5 p5)
      | false => exact iteF (k _ _ ρ3 G3 H3 ((n1.trans n2).trans n3) (.bl false) (q2 rfl))

/-! ### arguments, displays, calls -/
variable {PA : List PyData → List En → Prop} {tas : TA}
theorem ea_nil (q : PA [] ρ) : EvA K tNil ρ PA := fun G H σ Q st k => k [] [] ρ G H (Nx.refl st) .nil q
theorem ea_cons (h : Ev K ta ρ fun d ρ1 => EvA K tas ρ1 fun ds ρ2 => PA (d :: ds) ρ2) : EvA K (tCons ta tas) ρ PA := fun G H σ Q st k =>
  h G H σ _ st fun v d ρ1 G1 H1 n1 r1 p1 => p1 G1 H1 σ _ n1.st fun vs ds ρ2 G2 H2 n2 r2 p2 => k (v :: vs) (d :: ds) ρ2 G2 H2 (n1.trans n2) (.cons (r1.up n2.fr.g) r2) p2
theorem ev_tup (h : EvA K tas ρ fun ds ρ1 => ds.length ≤ 100000 ∧ P (.tuple ds) ρ1) : Ev K (tTup tas) ρ P := fun G H σ Q st k =>
  h G H σ _ st fun vs ds ρ1 G1 H1 n1 r1 ⟨hz, p⟩ => ⟨by rw [r1.length]; exact Nat.le_trans hz (by decide), fun a ha =>
    k _ _ ρ1 _ _ (n1.trans (Nx.newG n1.st ha)) (.tup upd_same (r1.up (same_new (n1.st.sub.free ha)))) p⟩
theorem ev_lst (h : EvA K tas ρ fun ds ρ1 => ds.length ≤ 100000 ∧ P (.list ds) ρ1) : Ev K (tLst tas) ρ P := fun G H σ Q st k =>
  h G H σ _ st fun vs ds ρ1 G1 H1 n1 r1 ⟨hz, p⟩ => ⟨by rw [r1.length]; exact Nat.le_trans hz (by decide), fun a ha =>
    k _ _ ρ1 _ _ (n1.trans (Nx.newG n1.st ha)) (.lst upd_same (r1.up (same_new (n1.st.sub.free ha)))) p⟩
/-- {} as data -/
theorem ev_dnew (q : P (.dict []) ρ) : Ev K (fun _ H Q => ∀ p, H p = none → Q (.ref p) (upd H p (.dK []))) ρ P := fun G H σ Q st k p hp =>
  k _ _ ρ _ _ (Nx.newG st hp) (.dct upd_same) q
theorem ev_cb {rc : List V → Hp → VK → Prop} (h : EvA K tas ρ fun ds ρ1 => RC K rc ds ρ1 P) : Ev K (tCB rc tas) ρ P := fun G H σ Q st k =>
  h G H σ _ st fun vs ds ρ1 G1 H1 n1 r1 p1 => p1 G1 H1 σ vs Q n1.st r1 fun w d ρ3 G3 H3 n3 r3 p3 => k w d ρ3 G3 H3 (n1.trans n3) r3 p3

/-! ### the promises of defs -/
/-- a def that changes nothing: R tells, of the arguments and what is wanted of the answer, when it may be called -/
def spP (K : PySem.W.Frag) (n : Nat) (R : List PyData → (PyData → Prop) → Prop) : Sp := fun vs H Q _ => vs.length = n ∧ ∃ (G : Hp) (ds : List PyData), Same G H ∧ RpAll K G vs ds ∧
  ∃ Pw : PyData → Prop, R ds Pw ∧ ∀ v d G' H', Fr none0 G H G' H' → Same G' H' → Rp K G' v d → Pw d → Q v H'
/-- a def whose first argument is a list that it may change -/
def spR (K : PySem.W.Frag) (n : Nat) (R : List PyData → List PyData → (PyData → List PyData → Prop) → Prop) : Sp := fun vs H Q _ => ∃ (a : Addr) (vr : List V), vs = .ref a :: vr ∧ vr.length = n ∧
  ∃ (G : Hp) (row : List PyData) (xs : List V) (ds : List PyData), Same G H ∧ G a = none ∧ H a = some (.lst xs) ∧ RpAll K G xs row ∧ RpAll K G vr ds ∧
  ∃ Pw : PyData → List PyData → Prop, R row ds Pw ∧ ∀ v d row' xs' G' H', Fr (fun b => b = a) G H G' H' → Same G' H' → G' a = none → H' a = some (.lst xs') → RpAll K G' xs' row' → Rp K G' v d → Pw d row' → Q v H'
theorem ev_call {n : Nat} {R : List PyData → (PyData → Prop) → Prop} {E : XK} (h : EvA K tas ρ fun ds ρ1 => ds.length = n ∧ R ds fun d => P d ρ1) : Ev K (tCall (spP K n R) [] E tas) ρ P := fun G H σ Q st k =>
  h G H σ _ st fun vs ds ρ1 G1 H1 n1 r1 ⟨hn, hr⟩ => by
    show spP K n R (vs ++ []) H1 Q E
    rw [List.append_nil]
    refine ⟨by rw [r1.length]; exact hn, G1, ds, n1.st.sub, r1, _, hr, fun v d G2 H2 f s rv p => ?_⟩
    exact k v d ρ1 G2 H2 (n1.trans (Nx.pure n1.st f s)) rv p
theorem ev_callR {n : Nat} {R : List PyData → List PyData → (PyData → List PyData → Prop) → Prop} {E : XK} {row0 : List PyData} (h0 : ρ[i]? = some (.ow l (.ls row0)))
    (h : EvA K tas ρ fun ds ρ1 => ∃ row, ρ1[i]? = some (.ow l (.ls row)) ∧ ds.length = n ∧ R row ds fun d row' => P d (ρ1.set i (.ow l (.ls row')))) : Ev K (tCall (spR K n R) [] E (tCons (tVar i) tas)) ρ P := fun G H σ Q st k => by
  obtain ⟨e1, _⟩ := st.ow i l _ h0
  refine ⟨.ref l, e1, h G H σ _ st fun vs ds ρ1 G1 H1 n1 r1 ⟨row, hrow, hn, hr⟩ => ?_⟩
  show spR K n R ((.ref l :: vs) ++ []) H1 Q E
  rw [List.append_nil]
  obtain ⟨f1, f2, xs, f3, f4⟩ := n1.st.ow i l _ hrow
  refine ⟨l, vs, rfl, by rw [r1.length]; exact hn, G1, row, xs, ds, n1.st.sub, f2, f3, f4, r1, _, hr, fun v d row' xs' G2 H2 f s g2 h2 rx rv p => ?_⟩
  have hi : i < ρ1.length := (List.getElem?_eq_some_iff.mp hrow).1
  have hown : Own ρ1 l := ⟨i, _, hrow⟩
  have hne : ∀ (j : Nat) l' m, i ≠ j → ρ1[j]? = some (.ow l' m) → l' ≠ l := fun j l' m hij hj z => by
    subst z
    exact hij (n1.st.sep i j l' _ _ hrow hj)
  have look : ∀ {j : Nat} {e : En}, (ρ1.set i (.ow l (.ls row')))[j]? = some e → (i = j ∧ e = .ow l (.ls row')) ∨ (i ≠ j ∧ ρ1[j]? = some e) := fun {j e} hj => by
    by_cases hij : i = j
    · subst hij
      rw [List.getElem?_set_self hi] at hj
      cases hj
      exact .inl ⟨rfl, rfl⟩
    · rw [get_set_ne hij] at hj
      exact .inr ⟨hij, hj⟩
  have st2 : Sts K G2 H2 σ (ρ1.set i (.ow l (.ls row'))) := by
    refine ⟨by rw [List.length_set]; exact n1.st.len, s, fun j d' hj => ?_, fun j l' m hj => ?_, fun j k l' m m' h1 h2 => ?_⟩
    · rcases look hj with ⟨_, z⟩ | ⟨hij, hj⟩
      · cases z
      · obtain ⟨v', a, b⟩ := n1.st.da j d' hj
        exact ⟨v', a, b.up f.g⟩
    · rcases look hj with ⟨z1, z⟩ | ⟨hij, hj⟩
      · cases z
        subst z1
        exact ⟨f1, g2, xs', h2, rx⟩
      · obtain ⟨a, b, c⟩ := n1.st.ow j l' m hj
        obtain ⟨ob, eo, nt⟩ := c.some
        have nl := hne j l' m hij hj
        exact ⟨a, f.apart l' ob b eo nt nl, c.up f.g (by rw [eo]; exact f.keep l' ob eo nl)⟩
    · have back : ∀ {j : Nat} {m : Mu}, (ρ1.set i (.ow l (.ls row')))[j]? = some (.ow l' m) → ∃ m0, ρ1[j]? = some (.ow l' m0) := fun {j m} hj => by
        rcases look hj with ⟨z1, z⟩ | ⟨_, hj⟩
        · cases z
          subst z1
          exact ⟨_, hrow⟩
        · exact ⟨m, hj⟩
      obtain ⟨m0, b1⟩ := back h1
      obtain ⟨m1, b2⟩ := back h2
      exact n1.st.sep j k l' m0 m1 b1 b2
  have n2 : Nx K G1 H1 ρ1 G2 H2 σ (ρ1.set i (.ow l (.ls row'))) := ⟨st2, f.mono fun b z => by rw [z]; exact hown, fun l' hl' => .inl ((own_set hl').elim id fun ⟨_, z⟩ => by cases z; exact hown)⟩
  exact k v d _ G2 H2 (n1.trans n2) rv p

/-! ### slices -/
theorem eo_no {PO : Option Int → List En → Prop} (q : PO none ρ) : EvO K tNoPart ρ PO := fun G H σ Q st k => k none ρ G H (Nx.refl st) q
theorem eo_part {PO : Option Int → List En → Prop} (h : Ev K te ρ fun d ρ1 => ∃ n : Int, d = .int n ∧ PO (some n) ρ1) : EvO K (tPart te) ρ PO := fun G H σ Q st k =>
  h G H σ _ st fun v d ρ1 G1 H1 n1 r1 ⟨n, e, p⟩ => by
    subst e
    cases r1
    exact ⟨n, rfl, k _ ρ1 G1 H1 n1 p⟩
theorem ev_sl {rs : V → Option Int → Option Int → Hp → VK → Prop} {tl th : TO} (h : Ev K te ρ fun x ρ1 => EvO K tl ρ1 fun lo ρ2 => EvO K th ρ2 fun hi ρ3 => RS K rs x lo hi ρ3 P) : Ev K (tSl rs te tl th) ρ P := fun G H σ Q st k =>
  h G H σ _ st fun u x ρ1 G1 H1 n1 r1 p1 => p1 G1 H1 σ _ n1.st fun lo ρ2 G2 H2 n2 p2 => p2 G2 H2 σ _ n2.st fun hi ρ3 G3 H3 n3 p3 =>
    p3 G3 H3 σ u Q n3.st ((r1.up n2.fr.g).up n3.fr.g) fun w d ρ4 G4 H4 n4 r4 p4 => k w d ρ4 G4 H4 (((n1.trans n2).trans n3).trans n4) r4 p4
def cutD (xs : List PyData) (lo hi : Option Int) : List PyData := (xs.drop (HT.sIx xs.length 0 lo)).take (HT.sIx xs.length xs.length hi - HT.sIx xs.length 0 lo)
theorem rs_tup {lo hi : Option Int} (q : P (.tuple (cutD ds lo hi)) ρ) : RS K (rSlA K) (.tuple ds) lo hi ρ P := fun G H σ u Q st ru k => by
  cases ru with
  | @tup a xs _ hs ha =>
    have hl := ha.length
    refine ⟨a, xs, rfl, .of (st.sub _ _ hs), fun ⟨e1, e2⟩ => ?_, fun _ p hp => ?_⟩
    · have e : cutD ds lo hi = ds := by
        unfold cutD
        rw [← hl, e1, e2, List.drop_zero, Nat.sub_zero, hl]
        exact List.take_length
      rw [e] at q
      exact k _ _ ρ G H (Nx.refl st) (.tup hs ha) q
    · refine k _ _ ρ _ _ (Nx.newG st hp) (.tup upd_same ?_) q
      unfold cutV cutD
      rw [hl]
      exact ((ha.drop _).take _).up (same_new (st.sub.free hp))
end
end Lv
/-! Lv3: statements, loops, comprehensions, defs. -/
namespace Lv
open PySem PySem.Spec PyProof.Rows L2

structure EndD where
  nx : List En → Prop
  rt : Pd := fun _ _ => False
  bk : List En → Prop := fun _ => False
  ct : List En → Prop := fun _ => False
def Es (K : PySem.W.Frag) (ts : TS) (ρ : List En) (P : EndD) : Prop :=
  ∀ (G H : Hp) (σ : St) (D : Ends), Sts K G H σ ρ → (∀ σ' ρ' G' H', Nx K G H ρ G' H' σ' ρ' → P.nx ρ' → D.nx σ' H') →
    (∀ v d σ' ρ' G' H', Nx K G H ρ G' H' σ' ρ' → Rp K G' v d → P.rt d ρ' → D.rt v H') →
    (∀ σ' ρ' G' H', Nx K G H ρ G' H' σ' ρ' → P.bk ρ' → D.bk σ' H') → (∀ σ' ρ' G' H', Nx K G H ρ G' H' σ' ρ' → P.ct ρ' → D.ct σ' H') → ts D σ H
/-- a target: js are the slots that it sets -/
def EvG (K : PySem.W.Frag) (g : TG) (js : List Nat) (d : PyData) (ρ : List En) (N : List En → Prop) : Prop :=
  ∀ (G H : Hp) (σ : St) (v : V) (Q : St → Hp → Prop), Sts K G H σ ρ → Rp K G v d →
    (∀ σ' ρ' G' H', Nx K G H ρ G' H' σ' ρ' → (∀ vs, (∀ j ∈ js, j ∈ vs) → wipe σ' vs = wipe σ vs) → N ρ' → Q σ' H') → g v σ H Q
/-- what is walked: the items as data; Z: what must stand in the slots meanwhile -/
structure Walk (K : PySem.W.Frag) (Z : List En → Prop) (J : It) (ds : List PyData) (G : Hp) : Prop where
  go : ∀ (i : Nat) G' H σ ρ', Same G G' → Sts K G' H σ ρ' → Z ρ' → i < ds.length → J.go i H
  yld : ∀ (i : Nat) G' H σ ρ' x H', Same G G' → Sts K G' H σ ρ' → Z ρ' → i < ds.length → J.yld i H x H' → ∃ d G'', ds[i]? = some d ∧ Rp K G'' x d ∧ Fr none0 G' H G'' H' ∧ Same G'' H'
  stop : ∀ (i : Nat) G' H σ ρ', Same G G' → Sts K G' H σ ρ' → Z ρ' → ds.length ≤ i → J.stop i H
def EvI (K : PySem.W.Frag) (wi : TI) (ρ : List En) (P : (List En → Prop) → List PyData → List En → Prop) : Prop :=
  ∀ (G H : Hp) (σ : St) (R : It → Hp → Prop), Sts K G H σ ρ → (∀ J Z ds ρ' G' H', Nx K G H ρ G' H' σ ρ' → Walk K Z J ds G' → P Z ds ρ' → R J H') → wi σ H R
def ZT : List En → Prop := fun _ => True

section
variable {K : PySem.W.Frag} {ρ : List En} {P : EndD} {te ta tb tl : TE} {tt : TT} {t u : TS} {i j : Nat} {l : Addr} {d : PyData} {ds : List PyData} {tas : TA} {g : TG} {N : List En → Prop} {js js' : List Nat}

/-! ### statements -/
theorem es_next (q : P.nx ρ) : Es K tNext ρ P := fun G H σ D st k1 _ _ _ => k1 σ ρ G H (Nx.refl st) q
theorem es_seq (h : Es K t ρ { P with nx := fun ρ1 => Es K u ρ1 P }) : Es K (tSeq t u) ρ P := fun G H σ D st k1 k2 k3 k4 =>
  h G H σ { D with nx := u D } st (fun σ1 ρ1 G1 H1 n1 p1 => p1 G1 H1 σ1 D n1.st (fun σ2 ρ2 G2 H2 n2 p => k1 σ2 ρ2 G2 H2 (n1.trans n2) p) (fun v d σ2 ρ2 G2 H2 n2 r p => k2 v d σ2 ρ2 G2 H2 (n1.trans n2) r p)
    (fun σ2 ρ2 G2 H2 n2 p => k3 σ2 ρ2 G2 H2 (n1.trans n2) p) (fun σ2 ρ2 G2 H2 n2 p => k4 σ2 ρ2 G2 H2 (n1.trans n2) p)) k2 k3 k4
theorem es_ret (h : Ev K te ρ P.rt) : Es K (tRet te) ρ P := fun G H σ D st _ k2 _ _ => h G H σ _ st fun v d ρ1 G1 H1 n1 r1 p => k2 v d σ ρ1 G1 H1 n1 r1 p
theorem es_retN (q : P.rt .none ρ) : Es K tRetN ρ P := fun G H σ D st _ k2 _ _ => k2 _ _ σ ρ G H (Nx.refl st) .non q
theorem es_drop (h : Ev K te ρ fun _ ρ1 => P.nx ρ1) : Es K (tDrop te) ρ P := fun G H σ D st k1 _ _ _ => h G H σ _ st fun v d ρ1 G1 H1 n1 r1 p => k1 σ ρ1 G1 H1 n1 p
theorem es_asg (h : Ev K te ρ fun d ρ1 => EvG K g js d ρ1 P.nx) : Es K (tAsg te g) ρ P := fun G H σ D st k1 _ _ _ =>
  h G H σ _ st fun v d ρ1 G1 H1 n1 r1 p => p G1 H1 σ v _ n1.st r1 fun σ2 ρ2 G2 H2 n2 _ q => k1 σ2 ρ2 G2 H2 (n1.trans n2) q
/-- name = e -/
theorem es_set (h : Ev K te ρ fun d ρ1 => P.nx (ρ1.set i (.da d))) : Es K (tAsg te (gName i)) ρ P := fun G H σ D st k1 _ _ _ =>
  h G H σ _ st fun v d ρ1 G1 H1 n1 r1 p => k1 _ _ G1 H1 (n1.trans (Nx.setDa n1.st r1)) p
theorem es_if (h : EvT K tt ρ fun b ρ1 => Br b (Es K t ρ1 P) (Es K u ρ1 P)) : Es K (tIfS tt t u) ρ P := fun G H σ D st k1 k2 k3 k4 =>
  h G H σ _ st fun b ρ1 G1 H1 n1 ⟨p1, p2⟩ => by
    have go : ∀ {s : TS}, Es K s ρ1 P → s D σ H1 := fun {s} p => p G1 H1 σ D n1.st (fun σ2 ρ2 G2 H2 n2 p => k1 σ2 ρ2 G2 H2 (n1.trans n2) p) (fun v d σ2 ρ2 G2 H2 n2 r p => k2 v d σ2 ρ2 G2 H2 (n1.trans n2) r p)
      (fun σ2 ρ2 G2 H2 n2 p => k3 σ2 ρ2 G2 H2 (n1.trans n2) p) (fun σ2 ρ2 G2 H2 n2 p => k4 σ2 ρ2 G2 H2 (n1.trans n2) p)
    cases b with
    | true => exact iteT (go (p1 rfl))
    | false => exact iteF (go (p2 rfl))
theorem Sts.noOwn {G H : Hp} {σ : St} {p : Addr} (st : Sts K G H σ ρ) (h : H p = none) : ¬ Own ρ p := fun ⟨i, m, e⟩ => by
  obtain ⟨_, _, c⟩ := st.ow i p m e
  obtain ⟨o, eo, _⟩ := c.some
  rw [h] at eo
  cases eo
/-- name = [..], a list of one's own -/
theorem es_own (h : EvA K tas ρ fun ds ρ1 => ds.length ≤ 100000 ∧ ∀ p, ¬ Own ρ1 p → P.nx (ρ1.set i (.ow p (.ls ds)))) : Es K (tAsg (tLst tas) (gName i)) ρ P := fun G H σ D st k1 _ _ _ =>
  h G H σ _ st fun vs ds ρ1 G1 H1 n1 r1 ⟨hz, p⟩ => ⟨by rw [r1.length]; exact Nat.le_trans hz (by decide), fun a ha => by
    have n2 := Nx.newH (o := .lst vs) n1.st ha
    have no := n1.st.noOwn ha
    have st3 : Sts K G1 (upd H1 a (.lst vs)) (σ.set i (some (.ref a))) (ρ1.set i (.ow a (.ls ds))) := n2.st.setOw (n1.st.sub.free ha) ⟨vs, upd_same, r1⟩ fun j m e => absurd ⟨j, m, e⟩ no
    refine k1 _ _ _ _ (n1.trans ⟨st3, n2.fr, fun l' hl' => ?_⟩) (p a no)
    rcases own_set hl' with z | ⟨m, z⟩
    · exact .inl z
    · cases z; exact .inr ha⟩
theorem es_ownD (h : ∀ p, ¬ Own ρ p → P.nx (ρ.set i (.ow p (.dt [])))) : Es K (tAsg tDNewT (gName i)) ρ P := fun G H σ D st k1 _ _ _ a ha => by
  have n2 := Nx.newH (o := .dT []) st ha
  have no := st.noOwn ha
  have st3 : Sts K G (upd H a (.dT [])) (σ.set i (some (.ref a))) (ρ.set i (.ow a (.dt []))) := n2.st.setOw (st.sub.free ha) (show upd H a (.dT []) a = some (.dT []) from upd_same) fun j m e => absurd ⟨j, m, e⟩ no
  refine k1 _ _ _ _ ⟨st3, n2.fr, fun l' hl' => ?_⟩ (h a no)
  rcases own_set hl' with z | ⟨m, z⟩
  · exact .inl z
  · cases z; exact .inr ha
/-- what is owned at the slot i is written -/
theorem Sts.write {G H : Hp} {σ : St} {m m' : Mu} {o : HO} (st : Sts K G H σ ρ) (h : ρ[i]? = some (.ow l m)) (hm : MuOk K G (upd H l o) l m') : Nx K G H ρ G (upd H l o) σ (ρ.set i (.ow l m')) := by
  have hi : i < ρ.length := (List.getElem?_eq_some_iff.mp h).1
  have hown : Own ρ l := ⟨i, _, h⟩
  obtain ⟨e1, e2, e3⟩ := st.ow i l m h
  obtain ⟨ob, eo, nt⟩ := e3.some
  have hne : ∀ (j : Nat) l' m, i ≠ j → ρ[j]? = some (.ow l' m) → l' ≠ l := fun j l' m hij hj z => by
    subst z
    exact hij (st.sep i j l' _ _ h hj)
  have look : ∀ {j : Nat} {e : En}, (ρ.set i (.ow l m'))[j]? = some e → (i = j ∧ e = .ow l m') ∨ (i ≠ j ∧ ρ[j]? = some e) := fun {j e} hj => by
    by_cases hij : i = j
    · subst hij
      rw [List.getElem?_set_self hi] at hj
      cases hj
      exact .inl ⟨rfl, rfl⟩
    · rw [get_set_ne hij] at hj
      exact .inr ⟨hij, hj⟩
  refine ⟨⟨by rw [List.length_set]; exact st.len, fun b x e => ?_, fun j d' hj => ?_, fun j l' m2 hj => ?_, fun j k l' m1 m2 h1 h2 => ?_⟩, ⟨fun a x e n => ?_, fun a e => ?_, Same.refl _, fun _ _ e _ _ _ => e⟩, fun l' hl' => .inl ((own_set hl').elim id fun ⟨_, z⟩ => by cases z; exact hown)⟩
  · have nb : b ≠ l := fun z => by subst z; rw [e2] at e; cases e
    rw [upd_ne nb]
    exact st.sub _ _ e
  · rcases look hj with ⟨_, z⟩ | ⟨hij, hj⟩
    · cases z
    · exact st.da j d' hj
  · rcases look hj with ⟨z1, z⟩ | ⟨hij, hj⟩
    · cases z
      subst z1
      exact ⟨e1, e2, hm⟩
    · obtain ⟨a, b, c⟩ := st.ow j l' m2 hj
      exact ⟨a, b, c.up (Same.refl _) (upd_ne (hne j l' m2 hij hj))⟩
  · have back : ∀ {j : Nat} {m0 : Mu}, (ρ.set i (.ow l m'))[j]? = some (.ow l' m0) → ∃ m0, ρ[j]? = some (.ow l' m0) := fun {j m0} hj => by
      rcases look hj with ⟨z1, z⟩ | ⟨_, hj⟩
      · cases z
        subst z1
        exact ⟨_, h⟩
      · exact ⟨m0, hj⟩
    obtain ⟨m3, b1⟩ := back h1
    obtain ⟨m4, b2⟩ := back h2
    exact st.sep j k l' m3 m4 b1 b2
  · rw [upd_ne fun z => n (by rw [z]; exact hown)]
    exact e
  · by_cases z : a = l
    · subst z; rw [upd_same]; exact fun z => nomatch z
    · rw [upd_ne z]; exact e
/-- xs.append(e), xs owned -/
theorem es_app (h0 : ∃ ds0, ρ[i]? = some (.ow l (.ls ds0))) (h : Ev K te ρ fun d ρ1 => ∃ ds, ρ1[i]? = some (.ow l (.ls ds)) ∧ ds.length < 100000 ∧ P.nx (ρ1.set i (.ow l (.ls (ds ++ [d]))))) :
    Es K (tDrop (tBM K "list" rAppend (tVar i) (tCons te tNil))) ρ P := fun G H σ D st k1 _ _ _ => by
  obtain ⟨ds0, h0⟩ := h0
  obtain ⟨e1, e2, xs0, e3, e4⟩ := st.ow i l _ h0
  refine ⟨.ref l, e1, .inl ⟨rfl, xs0, .of e3⟩, h G H σ _ st fun v d ρ1 G1 H1 n1 r1 ⟨ds, hd, hz, p⟩ => ?_⟩
  obtain ⟨f1, f2, xs, f3, f4⟩ := n1.st.ow i l _ hd
  refine ⟨l, xs, v, rfl, rfl, f3, by rw [f4.length]; exact Nat.lt_of_lt_of_le hz (by decide), ?_⟩
  exact k1 σ _ G1 _ (n1.trans (n1.st.write (m' := .ls (ds ++ [d])) hd ⟨_, upd_same, f4.append (.one r1)⟩)) p
/-- xs[n] = e, xs owned, n written -/
theorem es_put {n : Int} (h : Ev K te ρ fun d ρ1 => ∃ (l : Addr) (ds : List PyData) (k : Nat), ρ1[i]? = some (.ow l (.ls ds)) ∧ ixN ds.length n = some k ∧ P.nx (ρ1.set i (.ow l (.ls (ds.set k d))))) :
    Es K (tAsg te (gSub (tVar i) (tC (.int n)) rSetL)) ρ P := fun G H σ D st k1 _ _ _ =>
  h G H σ _ st fun v d ρ1 G1 H1 n1 r1 ⟨l, ds, k, hd, hk, p⟩ => by
    obtain ⟨f1, f2, xs, f3, f4⟩ := n1.st.ow i l _ hd
    refine ⟨.ref l, f1, l, xs, n, k, rfl, rfl, f3, by rw [f4.length]; exact hk, ?_⟩
    exact k1 σ _ G1 _ (n1.trans (n1.st.write (m' := .ls (ds.set k d)) hd ⟨_, upd_same, f4.set r1 k⟩)) p
/-- .. at a reckoned place -/
theorem es_putE {ti : TE} (h : Ev K te ρ fun d ρ1 => (∃ (l : Addr) (ds : List PyData), ρ1[i]? = some (.ow l (.ls ds))) ∧ Ev K ti ρ1 fun y ρ2 => ∃ (n : Int) (l : Addr) (ds : List PyData) (k : Nat), y = .int n ∧ ρ1[i]? = some (.ow l (.ls ds)) ∧ ρ2[i]? = some (.ow l (.ls ds)) ∧ ixN ds.length n = some k ∧ P.nx (ρ2.set i (.ow l (.ls (ds.set k d))))) :
    Es K (tAsg te (gSub (tVar i) ti rSetL)) ρ P := fun G H σ D st k1 _ _ _ =>
  h G H σ _ st fun v d ρ1 G1 H1 n1 r1 ⟨⟨l0, ds0, h0⟩, p⟩ => by
    obtain ⟨e1, _⟩ := n1.st.ow i l0 _ h0
    refine ⟨.ref l0, e1, p G1 H1 σ _ n1.st fun y dy ρ2 G2 H2 n2 r2 ⟨n, l, ds, k, ey, hd1, hd, hk, q⟩ => ?_⟩
    subst ey
    cases r2
    rw [h0] at hd1
    cases hd1
    obtain ⟨f1, f2, xs, f3, f4⟩ := n2.st.ow i l0 _ hd
    refine ⟨l0, xs, n, k, rfl, rfl, f3, by rw [f4.length]; exact hk, ?_⟩
    exact k1 σ _ G2 _ ((n1.trans n2).trans (n2.st.write (m' := .ls (ds0.set k d)) hd ⟨_, upd_same, f4.set (r1.up n2.fr.g) k⟩)) q
/-- n += e of ints -/
theorem es_augI {f : Int → Int → Int} (h : Ev K te ρ fun d ρ1 => ∃ a b : Int, d = .int b ∧ ρ[i]? = some (.da (.int a)) ∧ P.nx (ρ1.set i (.da (.int (f a b))))) (h0 : ∃ a : Int, ρ[i]? = some (.da (.int a))) :
    Es K (tAug i te (ipI f)) ρ P := fun G H σ D st k1 _ _ _ => by
  obtain ⟨a0, h0⟩ := h0
  obtain ⟨v, ev, rv⟩ := st.da i _ h0
  cases rv
  refine ⟨.int a0, ev, h G H σ _ st fun w d ρ1 G1 H1 n1 r1 ⟨a, b, ed, ha, p⟩ => ?_⟩
  subst ed
  cases r1
  rw [h0] at ha
  cases ha
  exact ⟨_, _, rfl, rfl, k1 _ _ G1 H1 (n1.trans (Nx.setDa n1.st (.int _))) p⟩
theorem es_augR {C : Int → Int → Prop} {f : Int → Int → Int} (h : Ev K te ρ fun d ρ1 => ∃ a b : Int, d = .int b ∧ ρ[i]? = some (.da (.int a)) ∧ C a b ∧ P.nx (ρ1.set i (.da (.int (f a b))))) (h0 : ∃ a : Int, ρ[i]? = some (.da (.int a))) :
    Es K (tAug i te (rI C fun x y => .int (f x y))) ρ P := fun G H σ D st k1 _ _ _ => by
  obtain ⟨a0, h0⟩ := h0
  obtain ⟨v, ev, rv⟩ := st.da i _ h0
  cases rv
  refine ⟨.int a0, ev, h G H σ _ st fun w d ρ1 G1 H1 n1 r1 ⟨a, b, ed, ha, hc, p⟩ => ?_⟩
  subst ed
  cases r1
  rw [h0] at ha
  cases ha
  exact ⟨_, _, rfl, rfl, hc, k1 _ _ G1 H1 (n1.trans (Nx.setDa n1.st (.int _))) p⟩
/-- a, b = e1, e2 -/
theorem es_par (h : EvA K tas ρ fun ds ρ1 => ∃ a b, ds = [a, b] ∧ P.nx ((ρ1.set i (.da a)).set j (.da b))) : Es K (tPar i j tas) ρ P := fun G H σ D st k1 _ _ _ =>
  h G H σ _ st fun vs ds ρ1 G1 H1 n1 r1 ⟨a, b, e, p⟩ => by
    subst e
    cases r1 with
    | cons ra rb =>
      cases rb with
      | cons rb rn =>
        cases rn
        have n2 := Nx.setDa (i := i) n1.st ra
        exact ⟨_, _, rfl, k1 _ _ G1 H1 (n1.trans (n2.trans (Nx.setDa n2.st rb))) p⟩

/-! ### targets -/
theorem wipe_set {x : Option V} : ∀ {vs : List Nat} {σ : St} {j : Nat}, j ∈ vs → wipe (σ.set j x) vs = wipe σ vs
  | [], _, _, h => nomatch h
  | v :: vs, σ, j, h => by
    show (wipe (σ.set j x) vs).set v none = (wipe σ vs).set v none
    by_cases hv : j = v
    · subst hv
      by_cases hm : j ∈ vs
      · rw [wipe_set hm]
      · have e : wipe (σ.set j x) vs = (wipe σ vs).set j x := by
          clear h
          induction vs with
          | nil => rfl
          | cons w ws ih =>
            have h1 : j ≠ w := fun z => hm (by rw [z]; exact List.mem_cons_self)
            have h2 : j ∉ ws := fun z => hm (List.mem_cons_of_mem _ z)
            show (wipe (σ.set j x) ws).set w none = ((wipe σ ws).set w none).set j x
            rw [ih h2, List.set_comm _ _ h1]
        rw [e, List.set_set]
    · have hm : j ∈ vs := by
        rcases List.mem_cons.mp h with z | z
        · exact absurd z hv
        · exact z
      rw [wipe_set hm]
theorem g_name (q : N (ρ.set i (.da d))) : EvG K (gName i) [i] d ρ N := fun G H σ v Q st r k =>
  k _ _ G H (Nx.setDa st r) (fun vs h => wipe_set (h i List.mem_cons_self)) q
theorem g_tup2 {g1 g2 : TG} {a b : PyData} (h : EvG K g1 js a ρ fun ρ1 => EvG K g2 js' b ρ1 N) : EvG K (gTup K 2 (gCons g1 (gCons g2 gNil))) (js ++ js') (.tuple [a, b]) ρ N := fun G H σ v Q st r k => by
  cases r with
  | @tup p xs _ hs ha =>
    cases ha with
    | cons ra rb =>
      cases rb with
      | cons rb rn =>
        cases rn
        refine ⟨p, _, rfl, .of (st.sub _ _ hs), rfl, _, _, rfl, h G H σ _ _ st ra fun σ1 ρ1 G1 H1 n1 w1 p1 => ?_⟩
        refine ⟨_, _, rfl, p1 G1 H1 σ1 _ _ n1.st (rb.up n1.fr.g) fun σ2 ρ2 G2 H2 n2 w2 p2 => ?_⟩
        exact ⟨rfl, k σ2 ρ2 G2 H2 (n1.trans n2) (fun vs hv => (w2 vs fun j hj => hv j (List.mem_append_right _ hj)).trans (w1 vs fun j hj => hv j (List.mem_append_left _ hj))) p2⟩

/-! ### walks -/
theorem walk_list {G : Hp} {a : Addr} {xs : List V} (h : G a = some (.lst xs)) (r : RpAll K G xs ds) : Walk K ZT (Itl K a) ds G where
  go := fun i G' H σ ρ' s1 s2 _ hi => by
    have hl : i < xs.length := by rw [r.length]; exact hi
    exact ⟨xs, xs[i], .of (s2.sub _ _ (s1 _ _ h)), List.getElem?_eq_getElem hl⟩
  yld := fun i G' H σ ρ' x H' s1 s2 _ hi ⟨e, hx⟩ => by
    subst e
    obtain ⟨d, hd, rd⟩ := r.getV (hx xs (.of (s2.sub _ _ (s1 _ _ h))))
    exact ⟨d, G', hd, rd.up s1, Fr.refl, s2.sub⟩
  stop := fun i G' H σ ρ' s1 s2 _ hi => ⟨xs, .of (s2.sub _ _ (s1 _ _ h)), by rw [r.length]; exact hi⟩
theorem walk_tup {G : Hp} {a : Addr} {xs : List V} (h : G a = some (.tup xs)) (r : RpAll K G xs ds) : Walk K ZT (Itt K a) ds G where
  go := fun i G' H σ ρ' s1 s2 _ hi => by
    have hl : i < xs.length := by rw [r.length]; exact hi
    exact ⟨xs, xs[i], .of (s2.sub _ _ (s1 _ _ h)), List.getElem?_eq_getElem hl⟩
  yld := fun i G' H σ ρ' x H' s1 s2 _ hi ⟨e, hx⟩ => by
    subst e
    obtain ⟨d, hd, rd⟩ := r.getV (hx xs (.of (s2.sub _ _ (s1 _ _ h))))
    exact ⟨d, G', hd, rd.up s1, Fr.refl, s2.sub⟩
  stop := fun i G' H σ ρ' s1 s2 _ hi => ⟨xs, .of (s2.sub _ _ (s1 _ _ h)), by rw [r.length]; exact hi⟩
def rngD (lo : Int) (n : Nat) : List PyData := (List.range n).map fun (k : Nat) => PyData.int (lo + k)
theorem rngD_len (lo : Int) (n : Nat) : (rngD lo n).length = n := by unfold rngD; rw [List.length_map, List.length_range]
theorem rngD_get {lo : Int} {n i : Nat} (h : i < n) : (rngD lo n)[i]? = some (.int (lo + i)) := by
  unfold rngD
  rw [List.getElem?_map, List.getElem?_range h]
  rfl
theorem walk_rng {G : Hp} {lo : Int} {n : Nat} : Walk K ZT (Itr lo n) (rngD lo n) G where
  go := fun i G' H σ ρ' _ _ _ hi => by rw [rngD_len] at hi; exact hi
  yld := fun i G' H σ ρ' x H' _ s2 _ hi ⟨e, hx⟩ => by
    subst e hx
    rw [rngD_len] at hi
    exact ⟨_, G', rngD_get hi, .int _, Fr.refl, s2.sub⟩
  stop := fun i G' H σ ρ' _ _ _ hi => by rw [rngD_len] at hi; exact hi
variable {PI : (List En → Prop) → List PyData → List En → Prop}
theorem ei_list (h : Ev K tl ρ fun d ρ1 => ∃ ds, d = .list ds ∧ PI ZT ds ρ1) : EvI K (iList K tl) ρ PI := fun G H σ R st k =>
  h G H σ _ st fun v d ρ1 G1 H1 n1 r1 ⟨ds, e, p⟩ => by
    subst e
    cases r1 with
    | @lst a xs _ hs ha => exact ⟨a, rfl, ⟨xs, .of (n1.st.sub _ _ hs)⟩, k _ _ ds ρ1 G1 H1 n1 (walk_list hs ha) p⟩
theorem ei_tup (h : Ev K tl ρ fun d ρ1 => ∃ ds, d = .tuple ds ∧ PI ZT ds ρ1) : EvI K (iTup K tl) ρ PI := fun G H σ R st k =>
  h G H σ _ st fun v d ρ1 G1 H1 n1 r1 ⟨ds, e, p⟩ => by
    subst e
    cases r1 with
    | @tup a xs _ hs ha => exact ⟨a, rfl, ⟨xs, .of (n1.st.sub _ _ hs)⟩, k _ _ ds ρ1 G1 H1 n1 (walk_tup hs ha) p⟩
theorem ei_r1 (h : EvA K tas ρ fun ds ρ1 => ∃ n : Int, ds = [.int n] ∧ -100000 ≤ n ∧ n ≤ 100000 ∧ PI ZT (rngD 0 n.toNat) ρ1) : EvI K (iRng1 tas) ρ PI := fun G H σ R st k =>
  h G H σ _ st fun vs ds ρ1 G1 H1 n1 r1 ⟨n, e, h1, h2, p⟩ => by
    subst e
    cases r1 with
    | cons ra rn =>
      cases rn
      cases ra
      exact ⟨n, rfl, by omega, by omega, k _ _ _ ρ1 G1 H1 n1 walk_rng p⟩
theorem ei_r2 (h : EvA K tas ρ fun ds ρ1 => ∃ a b : Int, ds = [.int a, .int b] ∧ -100000 ≤ a ∧ a ≤ 100000 ∧ -100000 ≤ b ∧ b ≤ 100000 ∧ PI ZT (rngD a (b - a).toNat) ρ1) : EvI K (iRng2 tas) ρ PI := fun G H σ R st k =>
  h G H σ _ st fun vs ds ρ1 G1 H1 n1 r1 ⟨a, b, e, h1, h2, h3, h4, p⟩ => by
    subst e
    cases r1 with
    | cons ra rn =>
      cases rn with
      | cons rb rn =>
        cases rn
        cases ra
        cases rb
        exact ⟨a, b, rfl, ⟨by omega, by omega, by omega, by omega⟩, k _ _ _ ρ1 G1 H1 n1 walk_rng p⟩

/-! ### for -/
theorem es_for {wi : TI} (h : EvI K wi ρ fun Z ds ρ1 => ∃ I : Nat → List En → Prop, (∀ i ρ', I i ρ' → Z ρ') ∧ I 0 ρ1 ∧ (∀ (i : Nat) d ρ', ds[i]? = some d → I i ρ' → EvG K g js d ρ' fun ρ2 => Es K u ρ2 { P with nx := I (i + 1), ct := I (i + 1), bk := P.nx }) ∧ ∀ ρ', I ds.length ρ' → P.nx ρ') :
    Es K (tFor wi g u) ρ P := fun G H σ D st k1 k2 k3 k4 =>
  h G H σ _ st fun J Z ds ρ1 G1 H1 n1 wk ⟨I, hZ, h0, hs, hd⟩ => by
    refine ⟨fun i m σ' H' => m = ds.length - i ∧ i ≤ ds.length ∧ ∃ ρ' G', Nx K G1 H1 ρ1 G' H' σ' ρ' ∧ I i ρ', ⟨ds.length, by simp, Nat.zero_le _, ρ1, G1, Nx.refl n1.st, h0⟩, ?_⟩
    rintro i m σ' H' ⟨rfl, hi, ρ', G', n2, hI⟩
    by_cases hlt : i < ds.length
    · refine .inr ⟨wk.go i G' H' σ' ρ' n2.fr.g n2.st (hZ _ _ hI) hlt, fun σ3 H3 => ∃ ρ3 G3, Nx K G1 H1 ρ1 G3 H3 σ3 ρ3 ∧ I (i + 1) ρ3, fun σ3 H3 ⟨ρ3, G3, n3, p3⟩ => ⟨ds.length - (i + 1), by omega, rfl, hlt, ρ3, G3, n3, p3⟩, fun x H2 y => ?_⟩
      obtain ⟨d, G2, ed, rd, f2, s2⟩ := wk.yld i G' H' σ' ρ' x H2 n2.fr.g n2.st (hZ _ _ hI) hlt y
      have n3 : Nx K G' H' ρ' G2 H2 σ' ρ' := Nx.pure n2.st f2 s2
      refine hs i d ρ' ed hI G2 H2 σ' x _ n3.st rd fun σ4 ρ4 G4 H4 n4 _ p4 => ?_
      have n5 := (n2.trans n3).trans n4
      exact p4 G4 H4 σ4 _ n4.st (fun σ5 ρ5 G5 H5 n6 p5 => ⟨ρ5, G5, n5.trans n6, p5⟩) (fun v d σ5 ρ5 G5 H5 n6 r p5 => k2 v d σ5 ρ5 G5 H5 ((n1.trans n5).trans n6) r p5)
        (fun σ5 ρ5 G5 H5 n6 p5 => k1 σ5 ρ5 G5 H5 ((n1.trans n5).trans n6) p5) (fun σ5 ρ5 G5 H5 n6 p5 => ⟨ρ5, G5, n5.trans n6, p5⟩)
    · have e : i = ds.length := by omega
      subst e
      exact .inl ⟨wk.stop _ G' H' σ' ρ' n2.fr.g n2.st (hZ _ _ hI) (Nat.le_refl _), k1 σ' ρ' G' H' (n1.trans n2) (hd ρ' hI)⟩
/-- while: W the invariant with its measure -/
theorem es_while (W : Nat → List En → Prop) (h0 : ∃ m, W m ρ) (hs : ∀ m ρ', W m ρ' → EvT K tt ρ' fun b ρ1 => Br b (Es K t ρ1 { P with nx := fun ρ2 => ∃ m', m' < m ∧ W m' ρ2, ct := fun ρ2 => ∃ m', m' < m ∧ W m' ρ2, bk := P.nx }) (P.nx ρ1)) :
    Es K (tWhile tt t) ρ P := fun G H σ D st k1 k2 k3 k4 => by
  obtain ⟨m0, h0⟩ := h0
  refine ⟨fun m σ' H' => ∃ ρ' G', Nx K G H ρ G' H' σ' ρ' ∧ W m ρ', ⟨m0, ρ, G, Nx.refl st, h0⟩, ?_⟩
  rintro m σ' H' ⟨ρ', G', n1, hW⟩
  refine hs m ρ' hW G' H' σ' _ n1.st fun b ρ1 G1 H1 n2 ⟨p1, p2⟩ => ?_
  cases b with
  | true =>
    refine iteT ⟨fun σ3 H3 => ∃ m', m' < m ∧ ∃ ρ3 G3, Nx K G H ρ G3 H3 σ3 ρ3 ∧ W m' ρ3, fun σ3 H3 z => z, ?_⟩
    have n3 := n1.trans n2
    exact p1 rfl G1 H1 σ' _ n2.st (fun σ5 ρ5 G5 H5 n6 ⟨m', hm, p5⟩ => ⟨m', hm, ρ5, G5, n3.trans n6, p5⟩) (fun v d σ5 ρ5 G5 H5 n6 r p5 => k2 v d σ5 ρ5 G5 H5 (n3.trans n6) r p5)
      (fun σ5 ρ5 G5 H5 n6 p5 => k1 σ5 ρ5 G5 H5 (n3.trans n6) p5) (fun σ5 ρ5 G5 H5 n6 ⟨m', hm, p5⟩ => ⟨m', hm, ρ5, G5, n3.trans n6, p5⟩)
  | false => exact iteF (k1 σ' ρ1 G1 H1 (n1.trans n2) (p2 rfl))

/-! ### list comprehensions -/
def wipeE (ρ : List En) : List Nat → List En
  | [] => ρ
  | v :: vs => (wipeE ρ vs).set v .un
theorem Sts.wipe {G H : Hp} {σ : St} (st : Sts K G H σ ρ) : ∀ vs : List Nat, Sts K G H (L2.wipe σ vs) (wipeE ρ vs)
  | [] => st
  | v :: vs => (st.wipe vs).setUn
theorem Sts.unwipe {G H : Hp} {σ : St} {vs : List Nat} {ρ' : List En} (st : Sts K G H (L2.wipe σ vs) ρ') : Sts K G H σ ρ' :=
  ⟨by rw [← st.len, wipe_length], st.sub, fun i d h => let ⟨v, a, b⟩ := st.da i d h; ⟨v, (wipe_some a).1, b⟩, fun i l m h => let ⟨a, b⟩ := st.ow i l m h; ⟨(wipe_some a).1, b⟩, st.sep⟩
theorem own_wipe : ∀ {vs : List Nat} {l : Addr}, Own (wipeE ρ vs) l → Own ρ l
  | [], _, h => h
  | v :: vs, l, h => own_wipe ((own_set h).elim id fun ⟨_, z⟩ => nomatch z)
variable {vs : List Nat} {P' : Pd}
/-- I: by the turn, the list so far, what stands in the slots (the block's own forgotten) -/
theorem ev_lc {wi : TI} (hj : ∀ j ∈ js, j ∈ vs) (h : EvI K wi ρ fun Z ds ρ1 => ∃ I : Nat → List PyData → List En → Prop, (∀ i acc ρ', I i acc ρ' → Z ρ') ∧ ds.length ≤ 100000 ∧ I 0 [] (wipeE ρ1 vs) ∧
      (∀ (i : Nat) acc d ρ', ds[i]? = some d → I i acc ρ' → EvG K g js d ρ' fun ρ2 => EvT K tt ρ2 fun b ρ3 => Br b (Ev K te ρ3 fun y ρ4 => I (i + 1) (acc ++ [y]) (wipeE ρ4 vs)) (I (i + 1) acc (wipeE ρ3 vs))) ∧
      ∀ acc ρ', I ds.length acc ρ' → P' (.list acc) ρ') : Ev K (tLc wi g tt te vs) ρ P' := fun G H σ Q st k =>
  h G H σ _ st fun J Z ds ρ1 G1 H1 n1 wk ⟨I, hZ, hz, h0, hs, hd⟩ D hD => by
    have nD := n1.st.noOwn hD
    have gD : G1 D = none := n1.st.sub.free hD
    -- the state within the block
    refine ⟨fun i m H' => m = ds.length - i ∧ i ≤ ds.length ∧ ∃ ρ' G' acc xs, Sts K G' H' (L2.wipe σ vs) ρ' ∧ Fr (Own ρ1) G1 H1 G' H' ∧ (∀ l, Own ρ' l → Own ρ1 l ∨ (H1 l = none ∧ l ≠ D)) ∧ H' D = some (.lst xs) ∧ G' D = none ∧ RpAll K G' xs acc ∧ acc.length ≤ i ∧ I i acc ρ',
      ⟨ds.length, by simp, Nat.zero_le _, wipeE ρ1 vs, G1, [], [], ?_, ?_, fun l hl => .inl (own_wipe hl), upd_same, gD, .nil, Nat.le_refl _, h0⟩, ?_⟩
    · exact (Nx.newH n1.st hD).st.wipe vs
    · exact (Fr.newH hD).mono fun _ z => z.elim
    rintro i m H' ⟨rfl, hi, ρ', G', acc, xs, st2, f2, o2, eD, g2, ra, hacc, hI⟩
    by_cases hlt : i < ds.length
    · refine .inr ⟨wk.go i G' H' _ ρ' f2.g st2 (hZ _ _ _ hI) hlt, fun H3 => ∃ ρ' G' acc xs, Sts K G' H3 (L2.wipe σ vs) ρ' ∧ Fr (Own ρ1) G1 H1 G' H3 ∧ (∀ l, Own ρ' l → Own ρ1 l ∨ (H1 l = none ∧ l ≠ D)) ∧ H3 D = some (.lst xs) ∧ G' D = none ∧ RpAll K G' xs acc ∧ acc.length ≤ i + 1 ∧ I (i + 1) acc ρ',
        fun H3 ⟨ρ3, G3, acc3, xs3, z⟩ => ⟨ds.length - (i + 1), by omega, rfl, hlt, ρ3, G3, acc3, xs3, z⟩, fun x H2 y => ?_⟩
      obtain ⟨d, G2, ed, rd, fy, s2⟩ := wk.yld i G' H' _ ρ' x H2 f2.g st2 (hZ _ _ _ hI) hlt y
      have n3 : Nx K G' H' ρ' G2 H2 (L2.wipe σ vs) ρ' := Nx.pure st2 fy s2
      refine hs i acc d ρ' ed hI G2 H2 (L2.wipe σ vs) x _ n3.st rd fun σ4 ρ4 G4 H4 n4 w4 p4 => ?_
      have ww : ∀ {σ : St} (vs : List Nat), L2.wipe (L2.wipe σ vs) vs = L2.wipe σ vs := by
        intro σ vs
        have key : ∀ (us vs : List Nat), (∀ j ∈ us, j ∈ vs) → L2.wipe (L2.wipe σ us) vs = L2.wipe σ vs := by
          intro us
          induction us with
          | nil => intro vs _; rfl
          | cons u us ih =>
            intro vs hv
            show L2.wipe ((L2.wipe σ us).set u none) vs = _
            rw [wipe_set (hv u List.mem_cons_self), ih vs fun j hj => hv j (List.mem_cons_of_mem _ hj)]
        exact key vs vs fun _ z => z
      have e4 : L2.wipe σ4 vs = L2.wipe σ vs := (w4 vs hj).trans (ww vs)
      refine ⟨e4, ?_⟩
      -- what a later step keeps
      have keep : ∀ {σ5 : St} {ρ5 : List En} {G5 H5 : Hp}, Nx K G' H' ρ' G5 H5 σ5 ρ5 → Fr (Own ρ1) G1 H1 G5 H5 ∧ (∀ l, Own ρ5 l → Own ρ1 l ∨ (H1 l = none ∧ l ≠ D)) ∧ H5 D = some (.lst xs) ∧ G5 D = none ∧ RpAll K G5 xs acc := fun {σ5 ρ5 G5 H5} n => by
        have nD' : ¬ Own ρ' D := fun z => by
          rcases o2 D z with q | ⟨_, q⟩
          · exact nD q
          · exact q rfl
        refine ⟨f2.trans n.fr fun l hl => (o2 l hl).elim .inl fun z => .inr z.1, fun l hl => ?_, n.fr.keep D _ eD nD', n.fr.apart D _ g2 eD (fun _ z => nomatch z) nD', ra.up n.fr.g⟩
        rcases n.own l hl with q | q
        · exact o2 l q
        · refine .inr ⟨f2.free q, fun z => ?_⟩
          subst z
          rw [eD] at q
          cases q
      refine p4 G4 H4 σ4 _ n4.st fun b ρ5 G5 H5 n5 ⟨p5, p6⟩ => ?_
      have n6 := (n3.trans n4).trans n5
      cases b with
      | true =>
        refine iteT (p5 rfl G5 H5 σ4 _ n5.st fun w dw ρ7 G7 H7 n7 r7 p7 => ?_)
        obtain ⟨q1, q2, q3, q4, q5⟩ := keep (n6.trans n7)
        have hz' : xs.length < sizeLine := by
          rw [ra.length]
          have : sizeLine = 16777216 := sizeLine_eq
          omega
        refine ⟨xs, q3, hz', wipeE ρ7 vs, G7, acc ++ [dw], xs ++ [w], ?_, ?_, fun l hl => q2 l (own_wipe hl), upd_same, q4, q5.append (.one r7), ?_, p7⟩
        · have st8 : Sts K G7 (upd H7 D (.lst (xs ++ [w]))) σ4 ρ7 := by
            have st7 := n7.st
            have nD7 : ¬ Own ρ7 D := fun z => by
              rcases q2 D z with q | ⟨_, q⟩
              · exact nD q
              · exact q rfl
            refine ⟨st7.len, fun b x e => ?_, st7.da, fun j l' m hj => ?_, st7.sep⟩
            · have nb : b ≠ D := fun z => by subst z; rw [q4] at e; cases e
              rw [upd_ne nb]
              exact st7.sub _ _ e
            · obtain ⟨a, b, c⟩ := st7.ow j l' m hj
              have nl : l' ≠ D := fun z => by subst z; exact nD7 ⟨j, m, hj⟩
              exact ⟨a, b, c.up (Same.refl _) (upd_ne nl)⟩
          have := st8.wipe vs
          rw [e4] at this
          exact this
        · refine ⟨fun a o e n => ?_, fun a e => ?_, q1.g, q1.apart⟩
          · have na : a ≠ D := fun z => by subst z; rw [hD] at e; cases e
            rw [upd_ne na]
            exact q1.keep a o e n
          · by_cases z : a = D
            · subst z; rw [upd_same]; exact fun z => nomatch z
            · rw [upd_ne z]; exact q1.there a e
        · rw [List.length_append]
          show acc.length + 1 ≤ i + 1
          omega
      | false =>
        obtain ⟨q1, q2, q3, q4, q5⟩ := keep n6
        refine iteF ⟨wipeE ρ5 vs, G5, acc, xs, ?_, q1, fun l hl => q2 l (own_wipe hl), q3, q4, q5, by omega, p6 rfl⟩
        have := n5.st.wipe vs
        rw [e4] at this
        exact this
    · have e : i = ds.length := by omega
      subst e
      refine .inl ⟨wk.stop _ G' H' _ ρ' f2.g st2 (hZ _ _ _ hI) (Nat.le_refl _), ?_⟩
      have sg : Same G' (upd G' D (.lst xs)) := same_new g2
      have st3 : Sts K (upd G' D (.lst xs)) H' σ ρ' := by
        refine st2.unwipe.fr sg (fun b x e => ?_) fun l hl => ⟨rfl, ?_⟩
        · by_cases hb : b = D
          · subst hb; rw [upd_same] at e; rw [eD]; exact e
          · rw [upd_ne hb] at e; exact st2.sub _ _ e
        · obtain ⟨j, m, hj⟩ := hl
          obtain ⟨_, b, _⟩ := st2.ow j l m hj
          have nl : l ≠ D := fun z => by
            subst z
            rcases o2 l ⟨j, m, hj⟩ with q | ⟨_, q⟩
            · exact nD q
            · exact q rfl
          rw [upd_ne nl]
          exact b
      refine k (.ref D) (.list acc) ρ' (upd G' D (.lst xs)) H' (n1.trans ⟨st3, ⟨f2.keep, f2.there, f2.g.trans sg, fun a o e1 e2 nt n => ?_⟩, fun l hl => (o2 l hl).elim .inl fun z => .inr z.1⟩) (.lst upd_same (ra.up sg)) (hd acc ρ' hI)
      have na : a ≠ D := fun z => by subst z; rw [hD] at e2; cases e2
      rw [upd_ne na]
      exact f2.apart a o e1 e2 nt n
/-- a comprehension that changes nothing, over items xs as enc tells them -/
theorem ev_lcP {α : Type} {wi : TI} (hj : ∀ j ∈ js, j ∈ vs) (h : EvI K wi ρ fun Z ds ρ1 => ∃ (xs : List α) (enc : α → PyData) (c : α → Bool) (f : α → PyData), Z (wipeE ρ1 vs) ∧ ds = xs.map enc ∧ xs.length ≤ 100000 ∧
      (∀ x, x ∈ xs → EvG K g js (enc x) (wipeE ρ1 vs) fun ρ2 => EvT K tt ρ2 fun b ρ3 => b = c x ∧ Br (c x) (Ev K te ρ3 fun y ρ4 => y = f x ∧ wipeE ρ4 vs = wipeE ρ1 vs) (wipeE ρ3 vs = wipeE ρ1 vs)) ∧
      P' (.list ((xs.filter c).map f)) (wipeE ρ1 vs)) : Ev K (tLc wi g tt te vs) ρ P' := by
  refine ev_lc (js := js) hj fun G H σ R st k => h G H σ R st fun J Z ds ρ1 G1 H1 n1 wk ⟨xs, enc, c, f, hZ, e, hz, hs, p⟩ => k J Z ds ρ1 G1 H1 n1 wk
    ⟨fun i acc ρ' => acc = ((xs.take i).filter c).map f ∧ ρ' = wipeE ρ1 vs, fun i acc ρ' ⟨_, e⟩ => by rw [e]; exact hZ, by rw [e, List.length_map]; exact hz, ⟨by rw [List.take_zero]; rfl, rfl⟩, ?_, ?_⟩
  · rintro i acc d ρ' ed ⟨rfl, rfl⟩
    rw [e, List.getElem?_map] at ed
    obtain ⟨x, hx, rfl⟩ := Option.map_eq_some_iff.mp ed
    have hm : x ∈ xs := List.mem_of_getElem? hx
    have et : xs.take (i + 1) = xs.take i ++ [x] := by rw [List.take_add_one, hx]; rfl
    intro G3 H3 σ3 v3 Q3 st3 r3 k3
    refine hs x hm G3 H3 σ3 v3 Q3 st3 r3 fun σ4 ρ4 G4 H4 n4 w4 p4 => k3 σ4 ρ4 G4 H4 n4 w4 ?_
    intro G5 H5 σ5 Q5 st5 k5
    refine p4 G5 H5 σ5 Q5 st5 fun b ρ6 G6 H6 n6 ⟨eb, q1, q2⟩ => k5 b ρ6 G6 H6 n6 ⟨fun hb => ?_, fun hb => ?_⟩
    · intro G7 H7 σ7 Q7 st7 k7
      refine q1 (eb.symm.trans hb) G7 H7 σ7 Q7 st7 fun v8 d8 ρ8 G8 H8 n8 r8 ⟨ey, ew⟩ => k7 v8 d8 ρ8 G8 H8 n8 r8 ⟨?_, ew⟩
      rw [et, List.filter_append, List.map_append, ey]
      congr 1
      rw [List.filter_cons, if_pos (eb.symm.trans hb)]
      rfl
    · refine ⟨?_, q2 (eb.symm.trans hb)⟩
      rw [et, List.filter_append, List.map_append, List.filter_cons, if_neg (by rw [← eb, hb]; exact Bool.false_ne_true)]
      simp
  · rintro acc ρ' ⟨rfl, rfl⟩
    rw [e, List.length_map, List.take_length]
    exact p
end
end Lv
/-! Lv4: defs, built-in calls by data, shapes of data. -/
namespace Lv
open PySem PySem.Spec PyProof.Rows L2

/-! ### a def of the text, as others call it -/
structure DefG (K : PySem.W.Frag) (mg : Str → Option Value) (x : Str) (st : Stmt) : Prop where
  ex : ∃ (f : Addr) (fd : FuncData), Fun K x x st f fd ∧ mg x = some (.ref f)
structure Cal (P : Program) (w : World) (K : PySem.W.Frag) (mg : Str → Option Value) (base : Heap) (k : Nat) (x : Str) (ps : List Str) (sp : Sp) : Prop where
  ex : ∃ (f : Addr) (fd : FuncData), FnOk P w K mg base CX0 k f fd ps sp ∧ mg x = some (.ref f) ∧ PySem.W.keepIn K (.ref f) = true ∧ Binds K fd ps []
section
variable {P : Program} {w : World} {K : PySem.W.Frag} {mg : Str → Option Value} {base : Heap} {k j : Nat} {x : Str} {ps N : List Str} {sp : Sp} {st : Stmt}
theorem Cal.mono (C : Cal P w K mg base k x ps sp) (h : k ≤ j) : Cal P w K mg base j x ps sp :=
  let ⟨f, fd, F, r⟩ := C.ex
  ⟨f, fd, F.mono h, r⟩
theorem pe_cal {X : Cx} {e : Expr} {es : List Expr} {p pos : Pos} {t : TA} (C : Cal X.prog X.w X.K X.mg X.base k x ps sp) (hr : Room k X.A) (hg : Gl X x) (ha : PA X (e :: es) t) (hdb : (x == ("__debug__" : Str)) = false := by decide)
    (he : starEach (e :: es) X.env = (false, eval e X.env) :: starEach es X.env := by rfl) (hpl : (backTo pos (starEach es X.env)).any (·.1) = false := by rfl) : PE X (.Call (.Name x p) (e :: es) [] pos) (tCall sp [] E0 t) := by
  obtain ⟨f, fd, F, g, kp, b⟩ := C.ex
  exact pe_call F hr hg g kp b .nil pass0 ha hdb he hpl
theorem sts_start {G H : Hp} {vs : List V} {ds : List PyData} (hs : Same G H) (hr : RpAll K G vs ds) {n : Nat} : Sts K G H (vs.map some ++ List.replicate n none) (ds.map En.da ++ List.replicate n En.un) := by
  have hl := hr.length
  have look : ∀ {i : Nat} {e : En}, (ds.map En.da ++ List.replicate n En.un)[i]? = some e → (∃ d, ds[i]? = some d ∧ e = .da d) ∨ e = .un := fun {i e} h => by
    by_cases hi : i < ds.length
    · rw [List.getElem?_append_left (by rw [List.length_map]; exact hi), List.getElem?_map] at h
      obtain ⟨d, h1, h2⟩ := Option.map_eq_some_iff.mp h
      exact .inl ⟨d, h1, h2.symm⟩
    · rw [List.getElem?_append_right (by rw [List.length_map]; omega), List.getElem?_replicate] at h
      split at h
      · cases h; exact .inr rfl
      · cases h
  refine ⟨by simp [hl], hs, fun i d h => ?_, fun i l m h => ?_, fun i j l m m' h _ => ?_⟩
  · rcases look h with ⟨d', h1, h2⟩ | h2
    · cases h2
      obtain ⟨v, e, r⟩ := hr.get h1
      refine ⟨v, ?_, r⟩
      have hi : i < vs.length := (List.getElem?_eq_some_iff.mp e).1
      rw [List.getElem?_append_left (by rw [List.length_map]; exact hi), List.getElem?_map, e]
      rfl
    · cases h2
  · rcases look h with ⟨d', h1, h2⟩ | h2 <;> cases h2
  · rcases look h with ⟨d', h1, h2⟩ | h2 <;> cases h2
theorem start_noOwn {ds : List PyData} {n : Nat} {l : Addr} : ¬ Own (ds.map En.da ++ List.replicate n En.un) l := fun ⟨i, m, h⟩ => by
  have hm := List.mem_of_getElem? h
  rcases List.mem_append.mp hm with z | z
  · obtain ⟨_, _, q⟩ := List.mem_map.mp z
    cases q
  · have := List.eq_of_mem_replicate z
    cases this
/-- THE RULE for a def that changes nothing -/
theorem mk_cal (R : List PyData → (PyData → Prop) → Prop) (D : DefG K mg x st) (S : FnScope N ps (defScope st))
    (hb : ∀ (kV doc pm : Value) (an : Option Addr) (cdv ct : Value) (us : List Value), us.length = ps.length → bindArgs (PySem.W.fnOf x x (defArgs st) (defBody st) (defScope st) .none kV doc pm an cdv ct) ⟨us, []⟩ = pure (ps.zip us))
    (body : ∀ (f : Addr) (cdv : Value) (A : Around) (outer : List Env) (s : Shared) (H : Hp) (E : XK), Room k (A.deeper (envOfC x (defScope st) s.heap.objs.size f cdv)) →
      ∃ t, PSs (cxOf CX0 P w K mg base N x (defScope st) f cdv A outer s H E).nox (defBody st) t ∧
        ∀ (ds : List PyData) (Pw : PyData → Prop), ds.length = ps.length → R ds Pw → Es K t (ds.map En.da ++ List.replicate (N.length - ps.length) En.un) { nx := fun _ => Pw .none, rt := fun d _ => Pw d }) :
    Cal P w K mg base (k + 1) x ps (spP K ps.length R) := by
  obtain ⟨f, fd, F, g⟩ := D.ex
  refine ⟨f, fd, F.ok S (fun vs H Q E h => h.1) (fun cdv A outer s H vs Q E hr h => ?_), g, F.kp, F.binds hb⟩
  obtain ⟨t, h1, h2⟩ := body f cdv A outer s H E hr
  refine ⟨t, h1, ?_⟩
  obtain ⟨hl, G, ds, hs, hrp, Pw, hR, q⟩ := h
  have e : L2.start N vs = vs.map some ++ List.replicate (N.length - ps.length) none := by unfold L2.start; rw [hl]
  rw [e]
  have fin : ∀ {G' H' : Hp}, Fr (Own (ds.map En.da ++ List.replicate (N.length - ps.length) En.un)) G H G' H' → Fr none0 G H G' H' := fun f => f.mono fun l z => (start_noOwn z).elim
  refine h2 ds Pw (by rw [← hrp.length]; exact hl) hR G H _ _ (sts_start hs hrp) (fun σ' ρ' G' H' n p => ?_) (fun v d σ' ρ' G' H' n r p => ?_) (fun _ _ _ _ _ p => p.elim) (fun _ _ _ _ _ p => p.elim)
  · exact q _ _ G' H' (fin n.fr) n.st.sub .non p
  · exact q v d G' H' (fin n.fr) n.st.sub r p
/-- THE RULE for a def that may change its first argument, a list -/
theorem mk_calR {q0 : Str} {pr : List Str} (R : List PyData → List PyData → (PyData → List PyData → Prop) → Prop) (D : DefG K mg x st) (S : FnScope N (q0 :: pr) (defScope st))
    (hb : ∀ (kV doc pm : Value) (an : Option Addr) (cdv ct : Value) (us : List Value), us.length = (q0 :: pr).length → bindArgs (PySem.W.fnOf x x (defArgs st) (defBody st) (defScope st) .none kV doc pm an cdv ct) ⟨us, []⟩ = pure ((q0 :: pr).zip us))
    (body : ∀ (f : Addr) (cdv : Value) (A : Around) (outer : List Env) (s : Shared) (H : Hp) (E : XK), Room k (A.deeper (envOfC x (defScope st) s.heap.objs.size f cdv)) →
      ∃ t, PSs (cxOf CX0 P w K mg base N x (defScope st) f cdv A outer s H E).nox (defBody st) t ∧
        ∀ (a : Addr) (row ds : List PyData) (Pw : PyData → List PyData → Prop), ds.length = pr.length → R row ds Pw → Es K t (.ow a (.ls row) :: (ds.map En.da ++ List.replicate (N.length - (pr.length + 1)) En.un))
          { nx := fun ρ' => ∃ row', ρ'[0]? = some (.ow a (.ls row')) ∧ Pw .none row', rt := fun d ρ' => ∃ row', ρ'[0]? = some (.ow a (.ls row')) ∧ Pw d row' }) :
    Cal P w K mg base (k + 1) x (q0 :: pr) (spR K pr.length R) := by
  obtain ⟨f, fd, F, g⟩ := D.ex
  refine ⟨f, fd, F.ok S (fun vs H Q E h => ?_) (fun cdv A outer s H vs Q E hr h => ?_), g, F.kp, F.binds hb⟩
  · obtain ⟨a, vr, rfl, hl, _⟩ := h
    show vr.length + 1 = pr.length + 1
    rw [hl]
  obtain ⟨t, h1, h2⟩ := body f cdv A outer s H E hr
  refine ⟨t, h1, ?_⟩
  obtain ⟨a, vr, rfl, hl, G, row, xs, ds, hs, ga, ha, hrow, hrp, Pw, hR, q⟩ := h
  have e : L2.start N (.ref a :: vr) = some (.ref a) :: (vr.map some ++ List.replicate (N.length - (pr.length + 1)) none) := by
    unfold L2.start
    rw [List.length_cons, hl]
    rfl
  rw [e]
  have st0 := sts_start (n := N.length - (pr.length + 1)) hs hrp
  have own0 : ∀ l, Own (.ow a (.ls row) :: (ds.map En.da ++ List.replicate (N.length - (pr.length + 1)) En.un)) l → l = a := fun l ⟨i, m, h⟩ => by
    cases i with
    | zero =>
      have h : some (En.ow a (.ls row)) = some (.ow l m) := h
      cases h
      rfl
    | succ i => exact (start_noOwn ⟨i, m, by simpa using h⟩).elim
  have st1 : Sts K G H (some (.ref a) :: (vr.map some ++ List.replicate (N.length - (pr.length + 1)) none)) (.ow a (.ls row) :: (ds.map En.da ++ List.replicate (N.length - (pr.length + 1)) En.un)) := by
    refine ⟨congrArg (· + 1) st0.len, hs, fun i d h => ?_, fun i l m h => ?_, fun i j l m m' h1 h2 => ?_⟩
    · cases i with
      | zero => cases (show some (En.ow a (.ls row)) = some (.da d) from h)
      | succ i => exact st0.da i d (by simpa using h)
    · cases i with
      | zero =>
        have h : some (En.ow a (.ls row)) = some (.ow l m) := h
        cases h
        exact ⟨rfl, ga, xs, ha, hrow⟩
      | succ i => exact (start_noOwn ⟨i, m, by simpa using h⟩).elim
    · cases i with
      | zero =>
        cases j with
        | zero => rfl
        | succ j => exact (start_noOwn ⟨j, m', by simpa using h2⟩).elim
      | succ i => exact (start_noOwn ⟨i, m, by simpa using h1⟩).elim
  have fin : ∀ {v : V} {d : PyData} {σ' : St} {ρ' : List En} {G' H' : Hp}, Nx K G H (.ow a (.ls row) :: (ds.map En.da ++ List.replicate (N.length - (pr.length + 1)) En.un)) G' H' σ' ρ' → Rp K G' v d → (∃ row', ρ'[0]? = some (.ow a (.ls row')) ∧ Pw d row') → Q v H' := fun {v d σ' ρ' G' H'} n r ⟨row', e0, p⟩ => by
    obtain ⟨_, g2, xs', e3, e4⟩ := n.st.ow 0 a _ e0
    exact q v d row' xs' G' H' (n.fr.mono own0) n.st.sub g2 e3 e4 r p
  exact h2 a row ds Pw (by rw [← hrp.length]; exact hl) hR G H _ _ st1 (fun σ' ρ' G' H' n p => fin n .non p) (fun v d σ' ρ' G' H' n r p => fin n r p) (fun _ _ _ _ _ p => p.elim) (fun _ _ _ _ _ p => p.elim)
theorem es_never {ρ : List En} {P : EndD} (h : False) : Es K tNever ρ P := h.elim
end

/-! ### built-in calls -/
section
variable {K : PySem.W.Frag} {ρ : List En} {P : Pd} {d : PyData} {ds : List PyData} {te : TE}
def lenD : PyData → Nat
  | .list ds => ds.length
  | .tuple ds => ds.length
  | .dict [(_, .list ds)] => ds.length
  | _ => 0
theorem rc_lenL (q : P (.int ds.length) ρ) : RC K (fun xs H Q => ∃ x n, xs = [x] ∧ LenV K x H n ∧ Q (.int n) H) [.list ds] ρ P := fun G H σ us Q st r k => by
  cases r with
  | cons r1 r2 =>
    cases r2
    cases r1 with
    | lst hs ha => exact ⟨_, _, rfl, .inl ⟨_, .of (st.sub _ _ hs), rfl⟩, by rw [ha.length]; exact k _ _ ρ G H (Nx.refl st) (.int _) q⟩
theorem rc_lenT (q : P (.int ds.length) ρ) : RC K (fun xs H Q => ∃ x n, xs = [x] ∧ LenV K x H n ∧ Q (.int n) H) [.tuple ds] ρ P := fun G H σ us Q st r k => by
  cases r with
  | cons r1 r2 =>
    cases r2
    cases r1 with
    | tup hs ha => exact ⟨_, _, rfl, .inr ⟨_, .of (st.sub _ _ hs), rfl⟩, by rw [ha.length]; exact k _ _ ρ G H (Nx.refl st) (.int _) q⟩
theorem rc_lenS {ns : List Int} (q : P (.int ns.length) ρ) : RC K (fun xs H Q => ∃ x n, xs = [x] ∧ LenV K x H n ∧ Q (.int n) H) [scrD ns] ρ P := fun G H σ us Q st r k => by
  cases r with
  | @cons u _ _ _ r1 r2 =>
    cases r2
    obtain ⟨a, ns', e1, e2, hs⟩ : ∃ (a : Addr) (ns' : List Int), u = .ref a ∧ ns'.map PyData.int = ns.map PyData.int ∧ SqL K G a (ns'.map V.int) := by
      generalize hz : scrD ns = z at r1
      cases r1 with
      | scr hs =>
        unfold scrD at hz
        injection hz with h1
        injection h1 with h2 _
        injection h2 with _ h4
        injection h4 with h5
        exact ⟨_, _, rfl, h5.symm, hs⟩
      | _ => cases hz
    have e3 : ns' = ns := List.map_inj_right (fun _ _ z => by cases z; rfl) |>.mp e2
    subst e1 e3
    exact ⟨_, _, rfl, .inl ⟨_, st.sub.seq hs, rfl⟩, by rw [List.length_map]; exact k _ _ ρ G H (Nx.refl st) (.int _) q⟩
theorem rc_max2 {a b : Int} (q : P (.int (if b > a then b else a)) ρ) : RC K (fun xs H Q => ∃ i j, xs = [.int i, .int j] ∧ Q (.int (if j > i then j else i)) H) [.int a, .int b] ρ P := fun G H σ us Q st r k => by
  cases r with
  | cons r1 r2 =>
    cases r2 with
    | cons r2 r3 =>
      cases r3
      cases r1
      cases r2
      exact ⟨a, b, rfl, k _ _ ρ G H (Nx.refl st) (.int _) q⟩
theorem rc_min2 {a b : Int} (q : P (.int (if b < a then b else a)) ρ) : RC K (fun xs H Q => ∃ i j, xs = [.int i, .int j] ∧ Q (.int (if j < i then j else i)) H) [.int a, .int b] ρ P := fun G H σ us Q st r k => by
  cases r with
  | cons r1 r2 =>
    cases r2 with
    | cons r2 r3 =>
      cases r3
      cases r1
      cases r2
      exact ⟨a, b, rfl, k _ _ ρ G H (Nx.refl st) (.int _) q⟩
theorem rc_abs {a : Int} (q : P (.int (if a < 0 then -a else a)) ρ) : RC K (fun xs H Q => ∃ i, xs = [.int i] ∧ Q (.int (if i < 0 then -i else i)) H) [.int a] ρ P := fun G H σ us Q st r k => by
  cases r with
  | cons r1 r2 =>
    cases r2
    cases r1
    exact ⟨a, rfl, k _ _ ρ G H (Nx.refl st) (.int _) q⟩
theorem rc_intI {a : Int} (q : P (.int a) ρ) : RC K (fun xs H Q => (∃ i, xs = [.int i] ∧ Q (.int i) H) ∨ ∃ k, xs = [.bl k] ∧ Q (.int (if k then 1 else 0)) H) [.int a] ρ P := fun G H σ us Q st r k => by
  cases r with
  | cons r1 r2 =>
    cases r2
    cases r1
    exact .inl ⟨a, rfl, k _ _ ρ G H (Nx.refl st) (.int _) q⟩
theorem rc_intB {b : Bool} (q : P (.int (if b then 1 else 0)) ρ) : RC K (fun xs H Q => (∃ i, xs = [.int i] ∧ Q (.int i) H) ∨ ∃ k, xs = [.bl k] ∧ Q (.int (if k then 1 else 0)) H) [.bool b] ρ P := fun G H σ us Q st r k => by
  cases r with
  | cons r1 r2 =>
    cases r2
    cases r1
    exact .inr ⟨b, rfl, k _ _ ρ G H (Nx.refl st) (.int _) q⟩
theorem rc_sum {ns : List Int} (q : P (.int ns.sum) ρ) : RC K (rSum K) [.list (ns.map PyData.int)] ρ P := fun G H σ us Q st r k => by
  cases r with
  | cons r1 r2 =>
    cases r2
    cases r1 with
    | lst hs ha =>
      have e := ha.ints
      subst e
      exact ⟨_, ns, rfl, .of (st.sub _ _ hs), k _ _ ρ G H (Nx.refl st) (.int _) q⟩
theorem rc_minI {ns : List Int} (hn : 0 < ns.length) (q : ∀ m : Int, m ∈ ns → (∀ x ∈ ns, m ≤ x) → P (.int m) ρ) : RC K (rMin K) [.list (ns.map PyData.int)] ρ P := fun G H σ us Q st r k => by
  cases r with
  | cons r1 r2 =>
    cases r2
    cases r1 with
    | lst hs ha =>
      have e := ha.ints
      subst e
      exact ⟨_, ns, rfl, .of (st.sub _ _ hs), hn, fun m h1 h2 => k _ _ ρ G H (Nx.refl st) (.int _) (q m h1 h2)⟩
theorem rc_maxI {ns : List Int} (hn : 0 < ns.length) (q : ∀ m : Int, m ∈ ns → (∀ x ∈ ns, x ≤ m) → P (.int m) ρ) : RC K (rMax K) [.list (ns.map PyData.int)] ρ P := fun G H σ us Q st r k => by
  cases r with
  | cons r1 r2 =>
    cases r2
    cases r1 with
    | lst hs ha =>
      have e := ha.ints
      subst e
      exact ⟨_, ns, rfl, .of (st.sub _ _ hs), hn, fun m h1 h2 => k _ _ ρ G H (Nx.refl st) (.int _) (q m h1 h2)⟩
/-- list(t) as data; tuple(l) -/
theorem rc_listT (q : P (.list ds) ρ) : RC K (fun xs H Q => ∃ p ys, xs = [.ref p] ∧ (SqL K H p ys ∨ SqT K H p ys) ∧ ∀ l, H l = none → Q (.ref l) (upd H l (.lst ys))) [.tuple ds] ρ P := fun G H σ us Q st r k => by
  cases r with
  | cons r1 r2 =>
    cases r2
    cases r1 with
    | tup hs ha =>
      exact ⟨_, _, rfl, .inr (.of (st.sub _ _ hs)), fun l hl => k _ _ ρ _ _ (Nx.newG st hl) (.lst upd_same (ha.up (same_new (st.sub.free hl)))) q⟩
theorem rc_tupL (q : P (.tuple ds) ρ) : RC K (fun xs H Q => ∃ p ys, xs = [.ref p] ∧ ((SqL K H p ys ∧ ∀ l, H l = none → Q (.ref l) (upd H l (.tup ys))) ∨ (SqT K H p ys ∧ Q (.ref p) H))) [.list ds] ρ P := fun G H σ us Q st r k => by
  cases r with
  | cons r1 r2 =>
    cases r2
    cases r1 with
    | lst hs ha =>
      exact ⟨_, _, rfl, .inl ⟨.of (st.sub _ _ hs), fun l hl => k _ _ ρ _ _ (Nx.newG st hl) (.tup upd_same (ha.up (same_new (st.sub.free hl)))) q⟩⟩
/-- name = list(t), a list of one's own -/
theorem es_ownT {P : EndD} {tas : TA} {i : Nat} (h : EvA K tas ρ fun es ρ1 => ∃ ds, es = [.tuple ds] ∧ ∀ p, ¬ Own ρ1 p → P.nx (ρ1.set i (.ow p (.ls ds)))) :
    Es K (tAsg (tCB (fun xs H Q => ∃ p ys, xs = [.ref p] ∧ (SqL K H p ys ∨ SqT K H p ys) ∧ ∀ l, H l = none → Q (.ref l) (upd H l (.lst ys))) tas) (gName i)) ρ P := fun G H σ D st k1 _ _ _ =>
  h G H σ _ st fun vs es ρ1 G1 H1 n1 r1 ⟨ds, e, p⟩ => by
    subst e
    cases r1 with
    | cons r1 r2 =>
      cases r2
      cases r1 with
      | @tup b xs _ hs ha =>
        refine ⟨b, xs, rfl, .inr (.of (n1.st.sub _ _ hs)), fun a hn => ?_⟩
        have n2 := Nx.newH (o := .lst xs) n1.st hn
        have no := n1.st.noOwn hn
        have st3 : Sts K G1 (upd H1 a (.lst xs)) (σ.set i (some (.ref a))) (ρ1.set i (.ow a (.ls ds))) := n2.st.setOw (n1.st.sub.free hn) ⟨xs, upd_same, ha⟩ fun j m e => absurd ⟨j, m, e⟩ no
        refine k1 _ _ _ _ (n1.trans ⟨st3, n2.fr, fun l' hl' => ?_⟩) (p a no)
        rcases own_set hl' with z | ⟨m, z⟩
        · exact .inl z
        · cases z; exact .inr hn

/-! ### isinstance -/
def pyTy : PyData → String
  | .none => "NoneType" | .bool _ => "bool" | .int _ => "int" | .str _ => "str" | .list _ => "list" | .tuple _ => "tuple"
  | .dict [] => "dict" | .dict (_ :: _) => "list"
theorem Rp.ty {G H : Hp} {v : V} {d : PyData} (h : Rp K G v d) (s : Same G H) : TyX K H v (.type (pyTy d)) := by
  cases h with
  | non => exact .base .non
  | bl b => exact .base (.bl b)
  | int i => exact .base (.int i)
  | dct e => exact .base (.dK (s _ _ e))
  | lst e _ => exact .base (.lst (s _ _ e))
  | tup e _ => exact .base (.tup (s _ _ e))
  | scr e =>
    rcases s.seq e with (e | ⟨o, e⟩) | ⟨o, its, n, e, c, _⟩
    · exact .base (.lst e)
    · exact .base (.frz e)
    · exact .kList e c
def tysD : List String := ["NoneType", "bool", "int", "str", "list", "tuple", "dict"]
theorem pyTy_mem (d : PyData) : pyTy d ∈ tysD := by
  cases d with
  | dict kvs => cases kvs <;> simp [pyTy, tysD]
  | _ => simp [pyTy, tysD]
theorem ev_isi {T : String} {b : PyData → Bool} (hk : ∀ d, kitB (pyTy d) T = some (b d)) (h : Ev K te ρ fun d ρ1 => P (.bool (b d)) ρ1) : Ev K (tCB (rIsi K) (tCons te (tCons (tC (.ty T)) tNil))) ρ P := fun G H σ Q st k =>
  h G H σ _ st fun v d ρ1 G1 H1 n1 r1 p => ⟨v, .ty T, _, _, _, rfl, .ty T, r1.ty n1.st.sub, kit_ty (hk d), k _ _ ρ1 G1 H1 n1 (.bl _) p⟩
def isInt : PyData → Bool
  | .int _ => true | .bool _ => true | _ => false
def isBol : PyData → Bool
  | .bool _ => true | _ => false
def isTup : PyData → Bool
  | .tuple _ => true | _ => false
def isLst : PyData → Bool
  | .list _ => true | .dict (_ :: _) => true | _ => false
def isTxt : PyData → Bool
  | .str _ => true | _ => false
theorem kit_at (T : String) (f : String → Bool) (h : tysD.all (fun s => kitB s T == some (f s)) = true) (d : PyData) : kitB (pyTy d) T = some (f (pyTy d)) :=
  eq_of_beq (List.all_eq_true.mp h _ (pyTy_mem d))
theorem kit_int (d : PyData) : kitB (pyTy d) "int" = some (isInt d) := by
  rw [kit_at "int" (fun s => s == "int" || s == "bool") (by decide +kernel) d]
  cases d with
  | dict kvs => cases kvs <;> rfl
  | _ => rfl
theorem kit_bool (d : PyData) : kitB (pyTy d) "bool" = some (isBol d) := by
  rw [kit_at "bool" (fun s => s == "bool") (by decide +kernel) d]
  cases d with
  | dict kvs => cases kvs <;> rfl
  | _ => rfl
theorem kit_tuple (d : PyData) : kitB (pyTy d) "tuple" = some (isTup d) := by
  rw [kit_at "tuple" (fun s => s == "tuple") (by decide +kernel) d]
  cases d with
  | dict kvs => cases kvs <;> rfl
  | _ => rfl
theorem kit_list (d : PyData) : kitB (pyTy d) "list" = some (isLst d) := by
  rw [kit_at "list" (fun s => s == "list") (by decide +kernel) d]
  cases d with
  | dict kvs => cases kvs <;> rfl
  | _ => rfl
theorem kit_str (d : PyData) : kitB (pyTy d) "str" = some (isTxt d) := by
  rw [kit_at "str" (fun s => s == "str") (by decide +kernel) d]
  cases d with
  | dict kvs => cases kvs <;> rfl
  | _ => rfl
/-- isinstance(x, (tuple, list)) -/
theorem ev_isiTL (h : Ev K te ρ fun d ρ1 => P (.bool (isTup d || isLst d)) ρ1) :
    Ev K (tCB (rIsiT K) (tCons te (tCons (tTup (tCons (tC (.ty "tuple")) (tCons (tC (.ty "list")) tNil))) tNil))) ρ P := fun G H σ Q st k =>
  h G H σ _ st fun v d ρ1 G1 H1 n1 r1 p => ⟨by show 2 ≤ sizeLine; decide, fun a ha => by
    refine ⟨v, a, [.ty "tuple", .ty "list"], .type (pyTy d), [.type "tuple", .type "list"], isTup d || isLst d, rfl, upd_same, .cons (.ty _) (.cons (.ty _) .nil), r1.ty (n1.st.sub.trans (same_new ha)), ?_, ?_⟩
    · refine kitAny_cons (kit_ty (kit_tuple d)) (fun e => ?_) (fun e => by rw [e]; rfl)
      rw [e, Bool.false_or]
      refine kitAny_cons (b := isLst d) (kit_ty (kit_list d)) (fun e => ?_) fun e => e
      rw [e]
      exact kitAny_nil
    · exact k _ _ ρ1 _ _ (n1.trans (Nx.newH n1.st ha)) (.bl _) p⟩
end

/-! ### shapes -/
structure Sh (n : Nat) (d : PyData) : Prop where
  c : d.canLay0 = true
  d : d.depth ≤ n
theorem Sh.ok {n : Nat} {d : PyData} (h : Sh n d) (hn : n ≤ 64 := by decide) : SeqAt.shaped d = true := Bool.and_eq_true_iff.mpr ⟨h.c, decide_eq_true (Nat.le_trans h.d hn)⟩
theorem Sh.int {n : Nat} {i : Int} : Sh n (.int i) := ⟨by simp [PyData.canLay0], by simp [PyData.depth]⟩
theorem Sh.bool {n : Nat} {b : Bool} : Sh n (.bool b) := ⟨by simp [PyData.canLay0], by simp [PyData.depth]⟩
theorem Sh.non {n : Nat} : Sh n .none := ⟨by simp [PyData.canLay0], by simp [PyData.depth]⟩
theorem Sh.all {n : Nat} : ∀ {ds : List PyData}, (∀ d ∈ ds, Sh n d) → PyData.canLayAll0 ds = true ∧ PyData.depthAll ds ≤ n
  | [], _ => ⟨by simp [PyData.canLayAll0], by simp [PyData.depthAll]⟩
  | d :: ds, h => by
    obtain ⟨h1, h2⟩ := Sh.all (ds := ds) fun x hx => h x (List.mem_cons_of_mem _ hx)
    obtain ⟨c, e⟩ := h d List.mem_cons_self
    exact ⟨by simp [PyData.canLayAll0, c, h1], by simp only [PyData.depthAll]; omega⟩
theorem Sh.tup {n : Nat} {ds : List PyData} (h : ∀ d ∈ ds, Sh n d) : Sh (n + 1) (.tuple ds) := by
  obtain ⟨h1, h2⟩ := Sh.all h
  exact ⟨by simp [PyData.canLay0, h1], by simp only [PyData.depth]; omega⟩
theorem Sh.lst {n : Nat} {ds : List PyData} (h : ∀ d ∈ ds, Sh n d) : Sh (n + 1) (.list ds) := by
  obtain ⟨h1, h2⟩ := Sh.all h
  exact ⟨by simp [PyData.canLay0, h1], by simp only [PyData.depth]; omega⟩
theorem Sh.map {α : Type} {n : Nat} {xs : List α} {f : α → PyData} (h : ∀ x, Sh n (f x)) : ∀ d ∈ xs.map f, Sh n d := fun d hd => by
  obtain ⟨x, _, rfl⟩ := List.mem_map.mp hd
  exact h x
theorem Sh.nil {n : Nat} : ∀ d ∈ ([] : List PyData), Sh n d := fun _ h => nomatch h
theorem Sh.cons {n : Nat} {d : PyData} {ds : List PyData} (h : Sh n d) (hs : ∀ d ∈ ds, Sh n d) : ∀ x ∈ d :: ds, Sh n x := fun x hx => by
  rcases List.mem_cons.mp hx with rfl | hx
  · exact h
  · exact hs x hx
theorem eqv_nil : ∀ (ds : List PyData), PyData.eqv (.list ds) (.list []) = ds.isEmpty
  | [] => by simp [PyData.eqv, PyData.eqvAll]
  | _ :: _ => by simp [PyData.eqv, PyData.eqvAll]
theorem eqv_map {α : Type} [DecidableEq α] (f : α → PyData) (h : ∀ a b, PyData.eqv (f a) (f b) = decide (a = b)) : ∀ xs ys : List α, PyData.eqvAll (xs.map f) (ys.map f) = decide (xs = ys)
  | [], [] => by simp [PyData.eqvAll]
  | [], _ :: _ => by simp [PyData.eqvAll]
  | _ :: _, [] => by simp [PyData.eqvAll]
  | x :: xs, y :: ys => by
    show (PyData.eqv (f x) (f y) && PyData.eqvAll (xs.map f) (ys.map f)) = _
    rw [h, eqv_map f h xs ys]
    by_cases e1 : x = y <;> by_cases e2 : xs = ys <;> simp [e1, e2]
theorem eqv_int (a b : Int) : PyData.eqv (.int a) (.int b) = decide (a = b) := by
  show (a == b) = _
  rw [Bool.eq_iff_iff]
  simp
theorem eqv_bool (a b : Bool) : PyData.eqv (.bool a) (.bool b) = decide (a = b) := by
  show (a == b) = _
  rw [Bool.eq_iff_iff]
  simp
end Lv
/-! Lw1: rules of the machine that the layer lacks: enumerate of a tuple, x in a tuple of data, keys of a dict with tuple keys. -/
namespace Lw
open PySem PySem.Spec PyProof.Rows L2
abbrev St := L2.St

/-! ### x in t, t a tuple of data -/
section
variable {X : Cx}
def rInT (K : PySem.W.Frag) : R2 := fun x y H Q => ∃ d ds, Dp K H x d ∧ Dp K H y (.tuple ds) ∧ SeqAt.shaped d = true ∧ SeqAt.shaped (.tuple ds) = true ∧ Q (.bl (ds.any fun z => PyData.eqv z d)) H
theorem op_inT (hu : X.A.units + 65 < cLine) : OpR X (compareOp .In) (rInT X.K) := fun pins s σ H x y v u Q I rx ry h => by
  obtain ⟨d, ds, hd, he, sd, se, q⟩ := h
  obtain ⟨_, r1⟩ := Dp.reads I d x v hd rx
  obtain ⟨_, r2⟩ := Dp.reads I (.tuple ds) y u he ry
  have hc : PyData.canLayAll0 ds = true := SeqAt.canLay_of_shaped se
  exact SeqAt.in_tuple_reads r2 r1 hc (SeqAt.canLay_of_shaped sd) (room_in_shaped sd hu) ⟨.bl _, H, I, rfl, q⟩
end

/-! ### enumerate(t), t a tuple -/
theorem meets_enumT (l : Addr) (items : Array Value) :
    Meets (Builtin.«enumerate.__new__» ⟨[.type "enumerate", .ref l], []⟩) (fun _ R s => s.heap.IsTuple l items ∧
      R (.ok (.ret (.ref (s.heap.push { cls := .type "tuple_iterator", data := .fields #[.ref l, .int 0 0] }).objs.size)))
        { s with heap := (s.heap.push { cls := .type "tuple_iterator", data := .fields #[.ref l, .int 0 0] }).push { cls := .type "enumerate", data := .fields #[.none, .bool false, .ref s.heap.objs.size, rawInt 0, .none, .none] } }) :=
  .of_wp fun prog w A R s h => by
    obtain ⟨hp, g, d, tk, os⟩ := s
    obtain ⟨h1, h⟩ := h
    have hsub := sub_enumerate
    have q1 : ∀ {A' : Around} {E : Value → Shared → Prop} {Q : Value → Shared → Prop}, Q (.ref hp.objs.size) ⟨hp.push { cls := .type "tuple_iterator", data := .fields #[.ref l, .int 0 0] }, g, d, tk, os⟩ → wpAny (model prog w) A' (pyIter (.ref l)) Q E ⟨hp, g, d, tk, os⟩ :=
      fun q => wpAny_pyIter_tuple (s := ⟨hp, g, d, tk, os⟩) h1 q
    wp_walk using q1
    refine wpAny_stack_any fun st => wpAny_pure ?_
    split
    · rename_i c _ _ _ _ _
      cases (c == Value.type "enumerate") <;> (wp_walk using q1; exact ⟨_, rfl, h⟩)
    · wp_walk using q1
      exact ⟨_, rfl, h⟩
theorem call_enumT {prog : Program} {w : World} {A : Around} {E : Value → Shared → Prop} {s : Shared} {l : Addr} {items : Array Value} {Q : Value → Shared → Prop} (hL : s.heap.IsTuple l items)
    (h : ∀ h', IsEnum h' (s.heap.objs.size + 1) s.heap.objs.size 0 .none → h'.IsTupleIter s.heap.objs.size l 0 →
      (∀ b o, s.heap.get? b = some o → h'.get? b = some o) → Q (.ref (s.heap.objs.size + 1)) { s with heap := h' }) : wpAny (model prog w) A (call (.type "enumerate") [.ref l]) Q E s := by
  refine callType_new F.called_enumerate (by decide) (F.typeCall_enumerate_1 _) (F.newCall_enumerate_1 _) (fun obj => F.args_object_init_2 obj _) F.entry_enumerate_new (meets_enumT l items) ⟨hL, ?_⟩
  have hz : (s.heap.push { cls := .type "tuple_iterator", data := .fields #[.ref l, .int 0 0] }).objs.size = s.heap.objs.size + 1 := Heap.size_push ..
  have he : IsEnum ((s.heap.push { cls := .type "tuple_iterator", data := .fields #[.ref l, .int 0 0] }).push
      { cls := .type "enumerate", data := .fields #[.none, .bool false, .ref s.heap.objs.size, rawInt 0, .none, .none] }) (s.heap.objs.size + 1) s.heap.objs.size 0 .none := by
    have q := Heap.get?_push_size (s.heap.push { cls := .type "tuple_iterator", data := .fields #[.ref l, .int 0 0] })
      (o := { cls := .type "enumerate", data := .fields #[.none, .bool false, .ref s.heap.objs.size, rawInt 0, .none, .none] }) rfl
    rw [hz] at q
    exact q
  show _ ∧ _
  rw [hz]
  exact ⟨⟨_, he, rfl⟩, h _ he ⟨_, Heap.get?_push_of_some _ (Heap.get?_push_size _ rfl), rfl, rfl⟩ fun b o x => Heap.get?_push_of_some _ (Heap.get?_push_of_some _ x)⟩
/-- the tuple at a, each item in a new pair with its place -/
def ItE (K : PySem.W.Frag) (a : Addr) : It :=
  ⟨fun i H => ∃ (xs : List V) (x : V), SqT K H a xs ∧ xs[i]? = some x, fun i H v H' => ∃ T x, v = .ref T ∧ H T = none ∧ H' = upd H T (.tup [.int (i : Nat), x]) ∧ ∀ xs, SqT K H a xs → xs[i]? = some x, fun i H => ∃ xs : List V, SqT K H a xs ∧ xs.length ≤ i⟩
theorem apart_cls {h : Heap} {a b : Addr} {o u : Obj} (h1 : h.get? a = some o) (h2 : h.get? b = some u) (hc : o.cls ≠ u.cls) : a ≠ b := fun z => by
  subst z
  rw [h1] at h2
  exact hc (congrArg Obj.cls (Option.some.inj h2))
theorem turn_enumT {P : Program} {w : World} {K : PySem.W.Frag} {elts : List Expr} {kk : Nat} {tpos : Pos} (a e it : Addr) :
    Turn P w K (.Tuple elts kk tpos) (ItE K a) [e, it] e (fun i h => (∃ old, IsEnum h e it ((i : Nat) : Int) old) ∧ h.IsTupleIter it a i) where
  mem := List.mem_cons_self
  obj := fun i h st b hb => by
    obtain ⟨⟨old, he⟩, o, ho, hc, hd⟩ := st
    rcases List.mem_cons.mp hb with z | z
    · rw [z]; exact ⟨_, he, fun v q => nomatch q⟩
    · rw [List.mem_singleton.mp z]; exact ⟨o, ho, fun v q => by rw [hd] at q; cases q⟩
  keep := fun i h h' st k => let ⟨⟨old, he⟩, hi⟩ := st; ⟨⟨old, k e List.mem_cons_self _ he⟩, hi.at fun o q => k it (List.mem_cons_of_mem _ List.mem_cons_self) o q⟩
  item := fun X hP hw hK hc i pins s σ H E I hf st hg => by
    subst hP hw hK
    obtain ⟨⟨old, he⟩, hit⟩ := st
    obtain ⟨xs, x, hq, hx⟩ := hg
    obtain ⟨its, rv, p, hz⟩ := I.tuple hq
    obtain ⟨u, hu, ru⟩ := rv.get hx
    have hel : e < s.heap.objs.size := Heap.lt_size he
    obtain ⟨oi, ei, ci, di⟩ := id hit
    obtain ⟨ot, et, ct, nt, dt⟩ := id p
    have hil : it < s.heap.objs.size := Heap.lt_size ei
    have hne : e ≠ it := apart_cls he ei (by rw [ci]; show Value.type "enumerate" ≠ Value.type "tuple_iterator"; decide)
    have nea : a ≠ e := apart_cls et he (by rw [ct]; show Value.type "tuple" ≠ Value.type "enumerate"; decide)
    have nia : a ≠ it := apart_cls et ei (by rw [ct, ci]; decide)
    have hef : e ∉ [it, a] := fun z => by
      rcases List.mem_cons.mp z with z | z
      · exact hne z
      · exact nea (List.mem_singleton.mp z).symm
    have hlt : i < its.toArray.size := by
      rw [List.size_toArray]
      exact (List.getElem?_eq_some_iff.mp hu).1
    refine wpAny_pyNext_enum_itemD (Draws.tuple (show X.A.in1.handled = none from I.ok.hd hc) it a nia its.toArray) he ⟨hit, p⟩ hlt hne hef fun y h' tk hy ho hst hT hsz hk => ?_
    have ey : y = u := by
      have hy : its.toArray[i]? = some y := hy
      rw [List.getElem?_toArray, hu] at hy
      exact (Option.some.inj hy).symm
    subst ey
    refine ⟨_, rfl, wpAny_letOwnedTupleGo_enum (s := { s with heap := h', toks := tk + 1 }) ho fun h'' he' sb => ?_⟩
    have hT2 : h''.get? s.heap.objs.size = some { cls := .type "tuple", data := .seq #[.int i tk, y] } := (sb.2 _ (Nat.ne_of_gt hel)).trans hT
    have new : ObjOk X.prog X.w (upd H s.heap.objs.size (.tup [.int (i : Nat), x])) h'' s.heap.objs.size (.tup [.int (i : Nat), x]) :=
      ⟨by show 2 ≤ sizeLine; decide, [.int i tk, y], .cons ⟨_, rfl⟩ (.cons ru .nil), ⟨_, hT2, rfl, _, rfl⟩⟩
    have I1 : Inv X pins σ (upd H s.heap.objs.size (.tup [.int (i : Nat), x])) { s with heap := h'', toks := tk + 1 } :=
      I.turnedNew (ch := [e, it]) (fun b ob hb q => (sb.2 b (fun z => hb (by rw [z]; exact List.mem_cons_self))).trans (hk b ob (fun z => hb (by rw [z]; exact List.mem_cons_self)) (fun z => hb (by rw [z]; exact List.mem_cons_of_mem _ List.mem_cons_self)) q)) hf (Nat.le_refl _) new
    refine ⟨.ref s.heap.objs.size, _, I1, rfl, ⟨_, x, rfl, I.hok.fresh (Nat.le_refl _), rfl, fun ys hys => by rw [I.tuple_inj hys hq]; exact hx⟩, ⟨⟨y, ?_⟩, hst.1.at fun o q => (sb.2 it (Ne.symm hne)).trans q⟩, fun b hb => ?_⟩
    · have e1 : ((i + 1 : Nat) : Int) = (i : Int) + 1 := by omega
      rw [e1]
      exact he'
    · have hb' : b < s.heap.objs.size := by
        rcases List.mem_cons.mp hb with z | z
        · rw [z]; exact hel
        · rw [List.mem_singleton.mp z]; exact hil
      rw [upd_ne (Nat.ne_of_lt hb')]
      exact (hf b hb).1
  done := fun X hP hw hK hc i pins s σ H E I hf st hg => by
    subst hP hw hK
    obtain ⟨⟨old, he⟩, hit⟩ := st
    obtain ⟨xs, hq, hx⟩ := hg
    obtain ⟨its, rv, p, hz⟩ := I.tuple hq
    obtain ⟨f0, f1, f2, f3, f4, f5⟩ := hf it (List.mem_cons_of_mem _ List.mem_cons_self)
    obtain ⟨oi, ei, ci, di⟩ := id hit
    obtain ⟨ot, et, ct, nt, dt⟩ := id p
    have nia : a ≠ it := apart_cls et ei (by rw [ct, ci]; decide)
    have hl := rv.length
    have D : Draws X.prog X.w X.A.in1 it [it, a] 0 (fun _ _ => False) (fun _ h => h.IsTupleIter it a i ∧ h.IsTuple a its.toArray) := {
      live := fun _ _ st => let ⟨o, ho, _⟩ := st.1; ⟨o, ho⟩
      frame := fun _ _ _ st hk => ⟨st.1.at fun o e => hk it (by simp) o e, st.2.at fun o e => hk a (by simp) o e⟩
      item := fun j s Q E hj st hQ => absurd hj (Nat.not_lt_zero j)
      done := fun s Q E st hE => wpAny_nextOf_tuple_end (show X.A.in1.handled = none from I.ok.hd hc) st.1 st.2 (by rw [List.getElem?_toArray]; exact List.getElem?_eq_none (by omega)) hE }
    exact wpAny_pyNext_enum_endD D he ⟨hit, p⟩ fun h' eb => ⟨rfl, I.turned (t' := s.toks) (fun b o hb q => eb b o hb q) f0 f1 f3 f4 f5⟩
  self := fun A i s Q E st h => let ⟨⟨_, he⟩, _⟩ := st; wpAny_pyIter_enum he h
def iEnumT (K : PySem.W.Frag) (ta : TA) : TI := fun σ H R => ta σ H fun vs H1 => ∃ a xs, vs = [.ref a] ∧ SqT K H1 a xs ∧ R (ItE K a) H1
theorem pi_enumT {X : Cx} {e : Expr} {ta : TA} {p pos tpos : Pos} {elts : List Expr} {kk : Nat} (hg : Gl X "enumerate") (hm : X.mg "enumerate" = none) (ha : PA X [e] ta) (hs : starEach [e] X.env = [(false, eval e X.env)] := by rfl) :
    PI X (.Tuple elts kk tpos) (.Call (.Name "enumerate" p) [e] [] pos) (iEnumT X.K ta) := ⟨fun pins s σ H R I h => by
  refine Call_ (ld_blt I hg hm boot_enumerate (PyProof.Rows.callWith_type1 (thn (ha.run pos pins s σ H _ I h) fun us s1 ⟨vs, H1, I1, r1, q1⟩ => ?_) hs rfl))
  obtain ⟨a, xs, ex, hq, q⟩ := q1
  subst ex
  cases r1 with
  | cons r rr =>
    cases rr
    cases r
    obtain ⟨its, rv, p', hz⟩ := I1.tuple hq
    refine call_enumT (items := its.toArray) p' fun h' he hit hk => wpAny_pyIter_enum he ?_
    have I2 : Inv X pins σ H1 { s1 with heap := h' } := I1.kept (t' := s1.toks) hk
    refine ⟨s1.heap.objs.size + 1, [s1.heap.objs.size + 1, s1.heap.objs.size], _, _, H1, rfl, I2, turn_enumT a (s1.heap.objs.size + 1) s1.heap.objs.size, ⟨⟨.none, he⟩, hit⟩, fun b hb => ?_, q⟩
    have hle : s1.heap.objs.size ≤ b := by
      rcases List.mem_cons.mp hb with z | z
      · rw [z]; exact Nat.le_add_right _ _
      · rw [List.mem_singleton.mp z]; exact Nat.le_refl _
    exact I1.fpOk hle (I1.hok.fresh hle)⟩
end Lw
/-! Lw2: min of data, d.keys() of tuple keys, sorted of it, sorted of data. -/
namespace Lw
open PySem PySem.Spec PyProof.Rows L2
open PySem.W (minD dataLt AlikeAll min_list_data alike alikeAll alike_unique)
open PySem.Calls (call_function_entry)

theorem minD_mem : ∀ (xs : List PyData) (x : PyData), minD x xs ∈ x :: xs
  | [], x => List.mem_cons_self
  | y :: ys, x => by
    show minD (if dataLt y x then y else x) ys ∈ x :: y :: ys
    have h := minD_mem ys (if dataLt y x then y else x)
    rcases List.mem_cons.mp h with e | e
    · rw [e]
      split
      · exact List.mem_cons_of_mem _ List.mem_cons_self
      · exact List.mem_cons_self
    · exact List.mem_cons_of_mem _ (List.mem_cons_of_mem _ e)
section
variable {X : Cx}
/-- min(xs), xs a list of data that can be compared: the item itself -/
def rMinD (K : PySem.W.Frag) : List V → Hp → VK → Prop := fun vs H Q => ∃ (a : Addr) (xs : List V) (d : PyData) (ds : List PyData), vs = [.ref a] ∧ SqL K H a xs ∧ DpAll K H xs (d :: ds) ∧ AlikeAll (d :: ds) ∧ PyData.depthAll (d :: ds) ≤ 60 ∧
  ∀ (i : Nat) (v : V), xs[i]? = some v → (d :: ds)[i]? = some (minD d ds) → Q v H
theorem dpAll_at {K : PySem.W.Frag} {H : Hp} : ∀ {xs : List V} {ds : List PyData} {i : Nat} {v : V}, DpAll K H xs ds → xs[i]? = some v → ∃ d, ds[i]? = some d ∧ Dp K H v d
  | _, _, _, _, .nil, e => by simp at e
  | _, _, 0, _, .cons r _, e => by simp at e; subst e; exact ⟨_, rfl, r⟩
  | _, _, i + 1, v, .cons _ t, e => by
    obtain ⟨u, h1, h2⟩ := dpAll_at (i := i) (v := v) t (by simpa using e)
    exact ⟨u, by simpa using h1, h2⟩
theorem cr_minD (hc : X.calm = true) (hu : X.A.units + 64 < cLine) : CallR X (.builtin "min") (rMinD X.K) := fun pins s σ H vs us Q I r h => by
  obtain ⟨a, xs, d, ds, rfl, hs, hd, hal, hz, q⟩ := h
  obtain ⟨its, rv, hl, _⟩ := I.list hs
  rw [Vals.ref1 r]
  obtain ⟨as, hr⟩ := Dp.readsAll I (d :: ds) xs its hd rv
  refine min_list_data (I.ok.hd hc) hl.isList hr hal (by omega) fun i v h' tk bs hv rd hk => ?_
  rw [List.getElem?_toArray] at hv
  have hlen := rv.length
  have hi : i < xs.length := by
    rw [hlen]
    exact (List.getElem?_eq_some_iff.mp hv).1
  obtain ⟨u, hu1, hu2⟩ := rv.get (List.getElem?_eq_getElem hi)
  rw [hv] at hu1
  cases hu1
  obtain ⟨e, he, hde⟩ := dpAll_at hd (List.getElem?_eq_getElem hi)
  obtain ⟨bs2, rd2⟩ := Dp.reads I e _ _ hde hu2
  have em : e ∈ d :: ds := List.mem_of_getElem? he
  have ee : e = minD d ds := alike_unique e (minD d ds) v _ _ (hal.1 e em _ (minD_mem ds d)) (Reads.keeps hk rd2) rd
  subst ee
  exact ⟨xs[i], H, I.kept hk, hu2, q i _ (List.getElem?_eq_getElem hi) he⟩

/-- d.keys(), d with tuple keys, as a value -/
def keysO (p d : Addr) : HO := .ext fun h => PySem.W.KdlKeysView h p d
theorem keysO_ok {P : Program} {w : World} {H : Hp} {h : Heap} {p d : Addr} (e : h.get? p = some { cls := .type "dict_keys", data := .fields #[.ref d] }) : ObjOk P w H h p (keysO p d) :=
  ⟨⟨_, e, rfl, rfl⟩, ⟨_, e⟩, fun h1 h2 x k => let ⟨o, ho, r⟩ := x; ⟨o, k o ho, r⟩⟩
def rKeysT : V → List V → Hp → VK → Prop := fun x xs H Q => ∃ (a : Addr) (kvs : List (List L2.Key × V)), x = .ref a ∧ xs = [] ∧ H a = some (.dT kvs) ∧ ∀ p, H p = none → Q (.ref p) (upd H p (keysO p a))
theorem mt_keysT : MtR X "dict.keys" rKeysT := fun pins s σ H x xs v us Q I rx rxs h => by
  obtain ⟨a, kvs, rfl, rfl, ha, q⟩ := h
  cases rx
  cases rxs
  obtain ⟨z, hd, xs', rel, o, es, ep, ho, hx, hdat, _⟩ := dt_of I.hok ha
  have raw : s.heap.DictRaw a es ep := ⟨o, ho, hx, hdat⟩
  refine call_meetsIn PySem.F.slot_dict_keys raw.typeIs PySem.F.entry_dict_keys (PySem.F.args_dict_keys_1 _) (meets_dict_keys_raw a hd) ⟨⟨es, ep, raw⟩, ?_⟩
  exact ⟨.ref s.heap.objs.size, upd H s.heap.objs.size (keysO s.heap.objs.size a), I.laid (t' := s.toks) (fun b u e => Heap.get?_push_of_some _ e) (Nat.le_refl _) (keysO_ok (Heap.get?_push_size _ rfl)), rfl, q _ (I.hok.fresh (Nat.le_refl _))⟩
/-- a walk of d.keys(), d locked -/
def iKeysMT (td : TE) : TI := fun σ H R => td σ H fun x H1 => ∃ d o kvs, x = .ref d ∧ H1 d = some (.frz o (.dT kvs)) ∧ R (Itkt d o kvs) H1
theorem pi_keysMT {tg e : Expr} {td : TE} {apos cpos : Pos} (he : PE X e td) (hbase : attributeBase e "keys" X.env (eval e X.env) = eval e X.env := by rfl) (hline : (apos.endLine == cpos.line) = true := by rfl) : PI X tg (.Call (.Attribute e "keys" apos) [] [] cpos) (iKeysMT td) := ⟨fun pins s σ H R I h => by
  refine wpAny_Call_method (T := "dict") (id := "dict.keys") hbase rfl hline F.plainAttrs_dict F.slot_dict_keys F.type_dict_keys (thn (he.run pins s σ H _ I h) fun u s1 ⟨x, H1, I1, rx, d, o, kvs, ex, hd, q⟩ => ?_)
  subst ex
  obtain rfl : u = Value.ref d := rx
  obtain ⟨hs, hgd, hx, es, ep, hdt, hsz, ent⟩ := I1.frzT hd
  have raw : s1.heap.DictRaw d es ep := ⟨o, hgd, hx, hdt⟩
  refine ⟨raw.typeIs, fun b e => ?_, ?_⟩
  · cases e
    exact ⟨o, hgd, hx.2.1⟩
  have I2 : Inv X pins σ H1 { s1 with heap := s1.heap.push { cls := .type "dict_keys", data := .fields #[.ref d] } } := I1.kept (t' := s1.toks) fun b ob q => Heap.get?_push_of_some _ q
  have fin : wpAny (model X.prog X.w) X.A (pyIter (.ref s1.heap.objs.size)) (PIE X pins σ tg R) X.xe { s1 with heap := s1.heap.push { cls := .type "dict_keys", data := .fields #[.ref d] } } := by
    refine wpAny_pyIter_keys_raw (d := d) ⟨_, Heap.get?_push_size _ rfl, rfl, rfl⟩ (raw.at fun o e => Heap.get?_push_of_some _ e) (pi_one (tk := s1.toks) I2 _ (turn_keysT _ hdt) ⟨_, Heap.get?_push_size _ rfl, rfl, ?_⟩ q)
    rw [hsz] <;> rfl
  show wpAny _ _ (callWith cpos (.builtin "dict.keys") [.ref d] [] []) _ X.xe s1
  exact method_meetsIn F.slot_dict_keys F.entry_dict_keys rfl (PySem.evalArgs_none ⟨rfl, raw.typeIs, F.args_dict_keys_1 _, _, meets_dict_keys_raw d hs, ⟨es, ep, raw⟩, fin⟩)⟩

/-- sorted(d.keys()): a new list of the keys' own tuples, in some order -/
def rSortK : List V → Hp → VK → Prop := fun vs H Q => ∃ (p a : Addr) (kvs : List (List L2.Key × V)) (m : List (List Int)), vs = [.ref p] ∧ H p = some (keysO p a) ∧ H a = some (.dT kvs) ∧ kvs.map (·.1) = m.map (fun k => k.map Sum.inl) ∧ (∀ k ∈ m, k ≠ []) ∧
  ∀ (q : Addr) (L : List (List Int × Addr)), (L.map (·.1)).Perm m → (∀ x ∈ L, H x.2 = some (.tup (x.1.map V.int))) → H q = none → Q (.ref q) (upd H q (.lst (L.map fun x => .ref x.2)))
abbrev encP (b : List Int × Addr) : PyData := .tuple (b.1.map PyData.int)
theorem reads_ints {h : Heap} : ∀ {us : List Value} {ns : List Int}, IntsAre us ns → ReadsAll h us (ns.map PyData.int) []
  | _, _, .nil => .nil
  | _, _, .cons a t r => .cons (as := []) (bs := []) (.int a t) (reads_ints r)
theorem alike_ints : ∀ ns ms : List Int, alikeAll (ns.map PyData.int) (ms.map PyData.int) = true
  | [], _ => by rw [List.map_nil]; simp [alikeAll]
  | _ :: _, [] => by rw [List.map_nil]; simp [alikeAll]
  | n :: ns, m :: ms => by
    show (alike (.int n) (.int m) && alikeAll (ns.map PyData.int) (ms.map PyData.int)) = true
    rw [alike_ints ns ms]
    simp [alike]
theorem depth_ints : ∀ ns : List Int, PyData.depthAll (ns.map PyData.int) = 0
  | [] => by simp [PyData.depthAll]
  | n :: ns => by
    show max (PyData.depth (.int n)) (PyData.depthAll (ns.map PyData.int)) = 0
    rw [depth_ints ns]
    simp [PyData.depth]
theorem each_of_get {α β : Type} {R : α → β → Prop} : ∀ {xs : List α} {ys : List β}, xs.length = ys.length → (∀ (i : Nat) x y, xs[i]? = some x → ys[i]? = some y → R x y) → PySem.W.EachIs R xs ys
  | [], [], _, _ => .nil
  | [], _ :: _, h, _ => by simp at h
  | _ :: _, [], h, _ => by simp at h
  | x :: xs, y :: ys, h, f => .cons (f 0 x y rfl rfl) (each_of_get (by simpa using h) fun i a b e1 e2 => f (i + 1) a b (by simpa using e1) (by simpa using e2))
theorem each_get {α β : Type} {R : α → β → Prop} : ∀ {xs : List α} {ys : List β}, PySem.W.EachIs R xs ys → Paired R xs ys
  | _, _, .nil => .nil
  | _, _, .cons r t => .cons r (each_get t)
theorem okGet {P : Program} {w : World} {H : Hp} {h : Heap} {a : Addr} {o : HO} (x : ObjOk P w H h a o) : ∃ u, h.get? a = some u := by
  cases o with
  | lst xs => obtain ⟨_, _, _, _, e⟩ := x; exact ⟨_, e⟩
  | tup xs => obtain ⟨_, _, _, u, e, _⟩ := x; exact ⟨u, e⟩
  | dK kvs => obtain ⟨_, _, _, _, u, _, _, e, _⟩ := x; exact ⟨u, e⟩
  | dT kvs => obtain ⟨_, _, _, _, u, _, _, e, _⟩ := x; exact ⟨u, e⟩
  | set S n => obtain ⟨u, _, _, _, e, _⟩ := x; exact ⟨u, e⟩
  | ins C dx fs => obtain ⟨_, _, _, e, _⟩ := x; exact ⟨_, e⟩
  | own y => exact x
  | xd fs => obtain ⟨_, ⟨u, _, _, e, _⟩, _⟩ := x; exact ⟨u, e⟩
  | rng lo hi => obtain ⟨_, _, _, e⟩ := x; exact ⟨_, e⟩
  | frz ob u => obtain ⟨e, _⟩ := x; exact ⟨_, e⟩
  | tbl ps => exact ⟨_, (show h.get? a = some _ from x)⟩
  | met f y => exact ⟨_, (show h.get? a = some _ from x)⟩
  | ext φ => obtain ⟨_, e, _⟩ := x; exact e
/-- a new thing, laid at a place where nothing stood -/
theorem laidAt {pins : List (Addr × Obj)} {σ : St} {H : Hp} {s : Shared} {h' : Heap} {a : Addr} {o : HO} {t' : Nat} (I : Inv X pins σ H s) (k : ∀ b u, s.heap.get? b = some u → h'.get? b = some u) (hg : s.heap.get? a = none) (new : ObjOk X.prog X.w (upd H a o) h' a o) :
    H a = none ∧ Inv X pins σ (upd H a o) { s with heap := h', toks := t' } := by
  have hn : H a = none := by
    cases e : H a with
    | none => rfl
    | some u =>
      obtain ⟨q, hq⟩ := okGet (I.hok a u e)
      rw [hg] at hq
      cases hq
  have ne : ∀ b u, s.heap.get? b = some u → b ≠ a := fun b u e z => by
    subst z
    rw [hg] at e
    cases e
  refine ⟨hn, I.un ⟨fun b u e _ _ _ => k b u e, fun b u e _ _ _ => ⟨u.slots, k b u e⟩, fun b u e n _ => by rw [upd_ne (ne b u e)]; exact n, fun b u e _ => ⟨u, k b u e⟩, fun b xs e => by rw [upd_ne (ne_of_none e hn)]; exact e,
    fun b u xs e => by rw [upd_ne (ne_of_none e hn)]; exact e, fun b ps e => ⟨#[], by rw [upd_ne (ne_of_none e hn), e]; simp⟩⟩ fun b u e => ?_⟩
  by_cases hb : b = a
  · subst hb
    rw [upd_same] at e
    cases e
    exact new
  · rw [upd_ne hb] at e
    exact (I.hok b u e).stay (fun c v _ q => k c v q) (fun c q => by rw [upd_ne (ne_of_none q hn)]; exact q) fun c xs q => by rw [upd_ne (ne_of_none q hn)]; exact q
theorem cr_sortedK (hc : X.calm = true) (hu : X.A.units + 64 < cLine) : CallR X (.builtin "sorted") rSortK := fun pins s σ H vs us Q I r h => by
  obtain ⟨p, a, kvs, m, rfl, hp, ha, hm, hne, q⟩ := h
  obtain rfl := Vals.ref1 r
  have view : PySem.W.KdlKeysView s.heap p a := (show ObjOk X.prog X.w H s.heap p (keysO p a) from I.hok p _ hp).1
  obtain ⟨z, hd, xs', rel, o, es, ep, ho, hx, hdat, hes, his, hn⟩ := dt_of I.hok ha
  have raw : s.heap.DictRaw a es ep := ⟨o, ho, hx, hdat⟩
  have l1 : kvs.length = xs'.length := Paired.length rel
  have l2 : es.size = xs'.length := size_of_entries hes
  have l3 : kvs.length = m.length := by
    have e := congrArg List.length hm
    rw [List.length_map, List.length_map] at e
    exact e
  have hh : X.A.handled = none := I.ok.hd hc
  -- the key at a place
  have key : ∀ (i : Nat) (hi : i < es.size), ∃ (ns : List Int) (b : Addr), m[i]? = some ns ∧ es[i].key = .ref b ∧ H b = some (.tup (ns.map V.int)) := fun i hi => by
    have hik : i < kvs.length := by omega
    obtain ⟨x, hx1, e1, e2, _⟩ := paired_get rel (List.getElem?_eq_getElem hik)
    have q1 := entry_at hes i
    rw [hx1] at q1
    rw [Array.getElem?_eq_getElem hi] at q1
    have e3 : es[i] = entryOfKey (tupleKind (mixKind X.prog X.w)) x := Option.some.inj q1
    have e4 : (kvs.map (·.1))[i]? = some kvs[i].1 := by rw [List.getElem?_map, List.getElem?_eq_getElem hik]; rfl
    rw [hm, List.getElem?_map] at e4
    obtain ⟨ns, h1, h2⟩ := Option.map_eq_some_iff.mp e4
    refine ⟨ns, x.2.1, h1, by rw [e3]; rfl, ?_⟩
    have e5 : H x.2.1 = some (.tup (kvs[i].1.map kV)) := e2
    rw [e5, ← h2, List.map_map]
    rfl
  refine call_function_entry kind_sorted plain_sorted entry_sorted (args_sorted1 _) ?_
  unfold Builtin.«sorted»
  refine wpAny_bind (m := checkCount "sorted" 1 1 _) (wpAny_pure ?_)
  refine wpAny_bind (PySem.W.kdu_collect (A := X.A.in1) (KdlSrc.rawKeys (r := p) (d := a) (es := es) (ep := ep)) hh ⟨view, raw⟩ (by omega) fun h' tk acc hk hacc => ?_)
  have hl : acc.toList.length = es.size := by rw [Array.length_toList]; exact hacc.1
  refine wpAny_bind (wpAny_newList ?_ (by rw [hl]; omega))
  -- the pairs
  have hbs : ∀ (n : Nat), n ≤ es.size → ∃ bs : List (List Int × Addr), bs.length = n ∧ bs.map (·.1) = m.take n ∧ ∀ (i : Nat) b, bs[i]? = some b → acc.toList[i]? = some (.ref b.2) ∧ H b.2 = some (.tup (b.1.map V.int)) := by
    intro n
    induction n with
    | zero => exact fun _ => ⟨[], rfl, by rw [List.take_zero]; rfl, fun i b e => by simp at e⟩
    | succ n ih =>
      intro hle
      obtain ⟨bs, h1, h2, h3⟩ := ih (by omega)
      obtain ⟨ns, b, k1, k2, k3⟩ := key n (by omega)
      refine ⟨bs ++ [(ns, b)], by rw [List.length_append, h1]; rfl, ?_, fun i c e => ?_⟩
      · rw [List.map_append, h2, List.take_add_one, k1]
        rfl
      · by_cases hi : i < bs.length
        · rw [List.getElem?_append_left hi] at e
          exact h3 i c e
        · rw [List.getElem?_append_right (by omega)] at e
          have e0 : i - bs.length = 0 := by
            rcases Nat.eq_zero_or_pos (i - bs.length) with z | z
            · exact z
            · rw [List.getElem?_eq_none (by simp; omega)] at e; cases e
          rw [e0] at e
          have ei : i = n := by omega
          subst ei
          cases e
          have hin : i < acc.toList.length := by omega
          obtain ⟨hi2, hv⟩ := hacc.2 i acc.toList[i] (by rw [← Array.getElem?_toList]; exact List.getElem?_eq_getElem hin)
          refine ⟨?_, k3⟩
          rw [List.getElem?_eq_getElem hin, hv, k2]
  obtain ⟨bs, b1, b2, b3⟩ := hbs es.size (Nat.le_refl _)
  have b2' : bs.map (·.1) = m := by rw [b2]; exact List.take_of_length_le (by omega)
  have nse : ∀ b ∈ bs, b.1 ≠ [] := fun b hb => hne _ (by rw [← b2']; exact List.mem_map.mpr ⟨b, hb, rfl⟩)
  have tup : ∀ b ∈ bs, ∃ its : List Value, IntsAre its b.1 ∧ IsTup s.heap b.2 its.toArray := fun b hb => by
    obtain ⟨i, hi⟩ := List.mem_iff_getElem?.mp hb
    obtain ⟨_, hH⟩ := b3 i b hi
    obtain ⟨its, rv, t, _⟩ := I.tuple (SqT.of hH)
    exact ⟨its, by simpa using rv.ints, t⟩
  have hD : ∀ b u, s.heap.get? b = some u → (h'.push { cls := .type "list", data := .seq acc.toList.toArray }).get? b = some u := fun b u e => Heap.get?_push_of_some _ (hk b u e)
  have eR : PySem.W.EachIs (fun (v : Value) (b : List Int × Addr) => v = .ref b.2 ∧ b ∈ bs) acc.toList bs := each_of_get (by rw [hl, b1]) fun i v b e1 e2 => by
    obtain ⟨h1, _⟩ := b3 i b e2
    rw [h1] at e1
    cases e1
    exact ⟨rfl, List.mem_of_getElem? e2⟩
  have eRd : PySem.W.EachIs (fun (v : Value) (b : List Int × Addr) => ∃ as, Reads (h'.push { cls := .type "list", data := .seq acc.toList.toArray }) v (encP b) as ∧ h'.objs.size ∉ as) acc.toList bs := each_of_get (by rw [hl, b1]) fun i v b e1 e2 => by
    obtain ⟨h1, _⟩ := b3 i b e2
    rw [h1] at e1
    cases e1
    obtain ⟨its, hi, ob, t1, t2, n, t3⟩ := tup b (List.mem_of_getElem? e2)
    exact ⟨[], .tuple (hD _ _ t1) t2 t3 (by simpa using reads_ints hi), by simp⟩
  refine wpAny_bind (wpAny_holding (wpAny_mono (PySem.W.list_sort_data (A := X.A.in1) (s := { s with heap := h'.push { cls := .type "list", data := .seq acc.toList.toArray }, toks := tk }) (Heap.get?_push_size _ rfl) eR eRd
    (fun d hd d' hd' => ?_) (.inl fun d hd => ?_) (by rw [b1]; omega) (fun b hb => ?_) fun out ho hE => ?_) (fun _ s' x => wpAny_pure ⟨_, rfl, x⟩) fun _ _ e => e))
  · obtain ⟨b, _, rfl⟩ := List.mem_map.mp hd
    obtain ⟨b', _, rfl⟩ := List.mem_map.mp hd'
    show alike (.tuple _) (.tuple _) = true
    simp only [alike]
    exact alike_ints _ _
  · obtain ⟨b, hb, rfl⟩ := List.mem_map.mp hd
    cases e : b.1 with
    | nil => exact absurd e (nse b hb)
    | cons n ns => exact ⟨.int n, ns.map PyData.int, by show PyData.tuple (b.1.map PyData.int) = _; rw [e]; rfl⟩
  · show X.A.units + 1 + 1 + PyData.depth (.tuple (b.1.map PyData.int)) < cLine
    simp only [PyData.depth, depth_ints]
    omega
  · have perm : (bs.mergeSort (PySem.W.dataLe false encP)).Perm bs := List.mergeSort_perm _ _
    have hE' := each_get hE
    obtain ⟨e, he⟩ := sortedHeap_at (h := h'.push { cls := .type "list", data := .seq acc.toList.toArray }) (a := h'.objs.size) (vs := acc.toList) (n := 0) (out := out.toArray) (Heap.get?_push_size _ rfl)
    have hz : s.heap.get? h'.objs.size = none := by
      cases e : s.heap.get? h'.objs.size with
      | none => rfl
      | some u => exact absurd (Heap.lt_size (hk _ u e)) (Nat.lt_irrefl _)
    have kp : ∀ b u, s.heap.get? b = some u → (sortedHeap (h'.push { cls := .type "list", data := .seq acc.toList.toArray }) h'.objs.size acc.toList out.toArray).get? b = some u := fun b u e => by
      have hb : b < h'.objs.size := Heap.lt_size (hk b u e)
      rw [sortedHeap_old (Nat.ne_of_lt hb) (by rw [Heap.size_push]; exact Nat.lt_succ_of_lt hb)]
      exact hD b u e
    have vo : Vals ((bs.mergeSort (PySem.W.dataLe false encP)).map fun x => V.ref x.2) out := by
      have go : ∀ {out : List Value} {L : List (List Int × Addr)}, Paired (fun (v : Value) (b : List Int × Addr) => v = .ref b.2 ∧ b ∈ bs) out L → Vals (L.map fun x => V.ref x.2) out := by
        intro out L h
        induction h with
        | nil => exact .nil
        | cons r t ih => exact .cons r.1 ih
      exact go hE'
    obtain ⟨hfree, I2⟩ := laidAt (t' := tk) (o := .lst ((bs.mergeSort (PySem.W.dataLe false encP)).map fun x => V.ref x.2)) I kp hz ⟨by rw [List.length_map, perm.length_eq, b1]; omega, out, e, vo, he⟩
    refine ⟨.ref h'.objs.size, _, I2, rfl, q _ _ ?_ (fun x hx => ?_) hfree⟩
    · rw [← b2']
      exact perm.map _
    · obtain ⟨i, hi⟩ := List.mem_iff_getElem?.mp (perm.mem_iff.mp hx)
      exact (b3 i x hi).2
end
end Lw
/-! Lw3: t[::-1] of a tuple, {k: v} with a tuple key, sorted of a list of tuples of ints. -/
namespace Lw
open PySem PySem.Spec PyProof.Rows L2

section
variable {prog : Program} {w : World} {A : Around} {E : Value → Shared → Prop} {s : Shared}
theorem adjust_rev (n : Nat) : Builtin.Slice.sliceAdjust none none (-1) (n : Int) = ((n : Int) - 1, -1) := rfl
theorem places_rev (n : Nat) : Builtin.Slice.slicePlaces ((n : Int) - 1) (-1) (-1) = n := by
  unfold Builtin.Slice.slicePlaces
  rw [if_neg (show ¬ ((-1 : Int) > 0) by decide)]
  by_cases h : (n : Int) - 1 > -1
  · rw [if_pos h]
    have e : ((n : Int) - 1 - -1 - 1) / (- -1) + 1 = (n : Int) := by
      rw [show (- -1 : Int) = 1 by decide, Int.ediv_one]
      omega
    rw [e, Int.toNat_natCast]
  · rw [if_neg h]
    show 0 = n
    omega
theorem pick_rev (xs : Array Value) : ((List.range xs.size).filterMap fun (m : Nat) => xs[(((xs.size : Int) - 1) + (m : Int) * -1).toNat]?).toArray = xs.toList.reverse.toArray := by
  have e : (List.range xs.size).filterMap (fun (m : Nat) => xs[(((xs.size : Int) - 1) + (m : Int) * -1).toNat]?) = ((List.range xs.size).map fun k => xs.size - 1 - k).filterMap (xs[·]?) := by
    rw [List.filterMap_map]
    have key : ∀ l : List Nat, (∀ m ∈ l, m < xs.size) → l.filterMap (fun (m : Nat) => xs[(((xs.size : Int) - 1) + (m : Int) * -1).toNat]?) = l.filterMap ((xs[·]?) ∘ fun k => xs.size - 1 - k) := by
      intro l
      induction l with
      | nil => intro _; rfl
      | cons m r ih =>
        intro hm
        have hlt := hm m List.mem_cons_self
        have em : (((xs.size : Int) - 1) + (m : Int) * -1).toNat = xs.size - 1 - m := by omega
        rw [List.filterMap_cons, List.filterMap_cons, ih fun k hk => hm k (List.mem_cons_of_mem _ hk), em]
        rfl
    exact key _ fun m hm => List.mem_range.mp hm
  rw [e, PySem.W.krv_range, List.filterMap_reverse, PySem.W.krv_all]
theorem sliceApplied_rev {sl : Addr} {v : Value} {n : Nat} {Q : Int × Int × Nat → Shared → Prop} (hs : s.heap.IsSliceOf sl .none .none v) (pv : IsPart v (some (-1))) (h : Q ((n : Int) - 1, -1, n) s) :
    wpAny (model prog w) A (Builtin.Slice.sliceApplied (.ref sl) (pure (n : Int))) Q E s := by
  obtain ⟨os, hos, hcs, hds⟩ := id hs
  unfold Builtin.Slice.sliceApplied Builtin.Slice.sliceFields
  refine wpAny_bind (wpAny_bind (wpAny_field hos hds (x := .none) rfl (wpAny_bind (wpAny_field hos hds (x := .none) rfl (wpAny_bind (wpAny_field hos hds (x := v) rfl (wpAny_pure ?_)))))))
  refine wpAny_bind (HT.slicePart_ pv ?_)
  show wpAny _ _ (if ((-1 : Int) == 0) = true then _ else _) _ _ s
  rw [if_neg (by decide)]
  refine wpAny_bind (slicePart_none (wpAny_bind (slicePart_none (wpAny_bind (wpAny_pure ?_)))))
  show wpAny _ _ (match Builtin.Slice.sliceAdjust none none (-1) (n : Int) with | (lo, hi) => pure (lo, (-1 : Int), Builtin.Slice.slicePlaces lo hi (-1))) _ _ s
  rw [adjust_rev n]
  show wpAny _ _ (pure ((n : Int) - 1, (-1 : Int), Builtin.Slice.slicePlaces ((n : Int) - 1) (-1) (-1))) _ _ s
  rw [places_rev]
  exact wpAny_pure h
theorem getItem_tuple_rev {t sl : Addr} {items : Array Value} {v : Value} {Q : Value → Shared → Prop} (ht : IsTup s.heap t items) (hs : s.heap.IsSliceOf sl .none .none v) (pv : IsPart v (some (-1)))
    (h : Q (.ref s.heap.objs.size) { s with heap := s.heap.push { cls := .type "tuple", data := .seq items.toList.reverse.toArray } }) (hsz : items.size ≤ sizeLine) : wpAny (model prog w) A (getItem (.ref t) (.ref sl)) Q E s := by
  have hfit : sizeOk (.seq items.toList.reverse.toArray) := by
    show items.toList.reverse.toArray.size ≤ sizeLine
    rw [List.size_toArray, List.length_reverse, Array.length_toList]
    exact hsz
  obtain ⟨os, hos, hcs, hds⟩ := id hs
  have hTs : s.TypeIs (.ref sl) "slice" := ⟨os, hos, hcs⟩
  unfold getItem
  try with_reducible refine wpAny_holding ?_
  first | refine wpAny_bind (wpAny_pure ?_) | skip
  refine wpAny_bind (wpAny_sequenceKey ht.typeIs (by decide) ?_)
  refine wpAny_bind (wpAny_callSpecial?_slot (name := Str.ofString "__getitem__") ht.typeIs PyProof.Rows.slot_tuple_getitem
    (wpAny_call_entry PyProof.Rows.slot_tuple_getitem ht.typeIs entry_tuple_getitem ?_ (args_tuple_getitem _ _)))
  show wpAny _ _ (Builtin.Tuple.tupleItemsOf (.ref t) >>= _) _ _ s
  refine wpAny_bind (tupleItemsOf_ ht ?_)
  refine wpAny_bind (wpAny_typeOf hTs ?_)
  rw [if_pos (by decide)]
  refine wpAny_bind (sliceApplied_rev (n := items.size) hs pv ?_)
  show wpAny _ _ (if (((items.size : Int) - 1 == 0) && ((-1 : Int) == 1) && (items.size == items.size)) = true then _ else _) _ _ s
  rw [if_neg (by rw [show ((-1 : Int) == 1) = false by decide, Bool.and_false, Bool.false_and]; exact Bool.false_ne_true), pick_rev]
  first
    | exact wpAny_bind (m := Builtin.Tuple.tupleExact _) (wpAny_newObj_type (wpAny_pure ⟨_, rfl, wpAny_pure h⟩) hfit)
    | exact wpAny_bind (m := Builtin.Tuple.tupleExact _) (wpAny_newObj_type (wpAny_bind (wpAny_pure (wpAny_pure ⟨_, rfl, wpAny_pure h⟩))) hfit)
    | exact wpAny_bind (wpAny_bind (m := Builtin.Tuple.tupleExact _) (wpAny_newObj_type (wpAny_pure (wpAny_pure ⟨_, rfl, wpAny_pure h⟩)) hfit))
    | exact wpAny_bind (wpAny_bind (m := Builtin.Tuple.tupleExact _) (wpAny_newObj_type (wpAny_pure ⟨_, rfl, wpAny_pure h⟩) hfit))
end
section
variable {X : Cx}
def tRev (K : PySem.W.Frag) (te : TE) (ts : TO) : TE := fun σ H Q => te σ H fun x H1 => ts σ H1 fun o H2 => o = some (-1) ∧ ∃ a xs, x = .ref a ∧ SqT K H2 a xs ∧ ∀ p, H2 p = none → Q (.ref p) (upd H2 p (.tup xs.reverse))
theorem pe_rev {e st : Expr} {te : TE} {ts : TO} {p2 pos : Pos} (he : PE X e te) (hs : PO X (some st) ts) : PE X (.Subscript e (.Slice none none (some st) p2) pos) (tRev X.K te ts) := ⟨fun pins s σ H Q I h => by
  refine Subscript_ (thn (he.run pins s σ H _ I h) fun v s1 ⟨x, H1, I1, r1, q1⟩ => ?_)
  refine wpAny_Slice ?_
  rw [evalPart_none]
  refine wpAny_pure (wpAny_pure (thn (hs.run pins s1 σ H1 _ I1 q1) fun vs s2 ⟨o, H2, I2, po, e1, a, xs, e2, hx, q2⟩ => ?_))
  subst e1 e2
  cases r1
  obtain ⟨its, rv, ht, hz⟩ := I2.tuple hx
  have hl := rv.length
  generalize hs3 : ({ s2 with heap := s2.heap.push { cls := .type "slice", data := .fields #[.none, .none, vs] } } : Shared) = s3
  have I3 : Inv X pins σ H2 s3 := by
    rw [← hs3]
    exact I2.kept (t' := s2.toks) fun b ob q => Heap.get?_push_of_some _ q
  obtain ⟨its3, rv3, ht3, _⟩ := I3.tuple hx
  have hl3 := rv3.length
  have hsl : s3.heap.IsSliceOf s2.heap.objs.size .none .none vs := by
    rw [← hs3]
    exact Heap.IsSliceOf.new ..
  refine tail_any (T := "tuple") (ops := [.ref a, .ref s2.heap.objs.size]) ht3.typeIs PyProof.Rows.slot_tuple_getitem.lookup (getItem_tuple_rev (items := its3.toArray) ht3 hsl po ?_ (by rw [List.size_toArray]; omega)) (by with_unfolding_all rfl)
  refine ⟨.ref s3.heap.objs.size, _, I3.laid (t' := s3.toks) (o := .tup xs.reverse) (fun b ob q => Heap.get?_push_of_some _ q) (Nat.le_refl _) ⟨by rw [List.length_reverse]; exact hz, its3.reverse, rv3.reverse, ?_⟩, rfl, q2 _ (I3.hok.fresh (Nat.le_refl _))⟩
  exact IsTup.new _ _⟩

/-- {k: v}, the key a tuple; the new dict stands empty while the pair is made -/
def tDisp1 (tk tv : TE) : TE := fun σ H Q => ∀ p, H p = none → tk σ (upd H p (.dT [])) fun x H1 => tv σ H1 fun y H2 => H2 p = some (.dT []) ∧ ∃ (b : Addr) (ks : List L2.Key), x = .ref b ∧ H2 b = some (.tup (ks.map kV)) ∧ Q (.ref p) (upd H2 p (.dT [(ks, y)]))
theorem pe_disp1 {k v : Expr} {tk tv : TE} {pos : Pos} (hu : X.A.units + 1 < cLine) (hk : PE X k tk) (hv : PE X v tv) : PE X (.Dict [some k] [v] pos) (tDisp1 tk tv) := ⟨fun pins s σ H Q I q => by
  have hn := I.hok.fresh (Nat.le_refl s.heap.objs.size)
  have I1 := I.laid (a := s.heap.objs.size) (o := .dT []) (h' := s.heap.push { cls := .type "dict", data := .dict #[] }) (t' := s.toks) (fun _ _ q => Heap.get?_push_of_some _ q) (Nat.le_refl _) (dt_empty s.heap I.big)
  have hp := pps_cons (pos := pos) hk hv (pps_nil (X := X))
  have hz := zip_pairTrees [some k] [v] X.env pos rfl rfl
  have hlen := pairTrees_length [some k] [v] X.env pos rfl rfl
  have hne : pairTrees [some k] [v] X.env pos ≠ [] := fun z => by rw [z] at hlen; simp at hlen
  rw [arm_eval_Dict, hz, dictDisplay_pairs _ hne (by rw [hlen, List.length_singleton]; decide)]
  refine wpAny_bind (wpAny_standAt (wpAny_bind (wpAny_subDictH (knd := tupleKind (mixKind X.prog X.w)) (Q := fun d s' => wpAny (model X.prog X.w) X.A (pure (Value.ref d)) (EP X pins σ Q) X.xe s') (show X.A.units < cLine by omega) (by rw [hlen, List.length_singleton]; decide)
    (thn (hp.run pins _ σ _ (fun ps H2 => match ps with
      | [(x, y)] => H2 s.heap.objs.size = some (.dT []) ∧ ∃ (b : Addr) (ks : List L2.Key), x = .ref b ∧ H2 b = some (.tup (ks.map kV)) ∧ Q (.ref s.heap.objs.size) (upd H2 s.heap.objs.size (.dT [(ks, y)]))
      | _ => False) I1 (q _ hn)) fun vs s2 ⟨ps, H2, I2, rel, z⟩ => ?_))))
  · obtain ⟨x, y, rfl, e0, b, ks, ex, eb, q2⟩ : ∃ x y, ps = [(x, y)] ∧ H2 s.heap.objs.size = some (.dT []) ∧ ∃ (b : Addr) (ks : List L2.Key), x = .ref b ∧ H2 b = some (.tup (ks.map kV)) ∧ Q (.ref s.heap.objs.size) (upd H2 s.heap.objs.size (.dT [(ks, y)])) := by
      split at z
      · exact ⟨_, _, rfl, z⟩
      · exact z.elim
    subst ex
    cases rel with
    | cons r rr =>
      cases rr
      obtain ⟨r1, r2⟩ := r
      rename_i w ws
      obtain ⟨w1, w2⟩ := w
      cases (show w1 = Value.ref b from r1)
      obtain ⟨z, hd, xs0, rel0, dd⟩ := dt_of I2.hok e0
      have ex0 : xs0 = [] := by
        have := Paired.length rel0
        exact List.length_eq_zero_iff.mp this.symm
      subst ex0
      refine ⟨[(ks, b, w2)], ⟨rfl, rfl, key_of I2.hok eb, trivial⟩, dd, fun h' tk' dd' hs => wpAny_pure ?_⟩
      obtain ⟨q', es, ep', hq, h2, h3, h4, _, h5⟩ := dd'
      have I3 : Inv X pins σ (upd H2 s.heap.objs.size (.dT [(ks, y)])) { s2 with heap := h', toks := tk' } := by
        refine I2.write (t' := tk') (by rw [e0]; exact True.intro) (.inl rfl) (fun c u hc qc => (hs.2 c hc).trans qc) ⟨q', hq⟩ ⟨by show 1 ≤ sizeLine; decide, hd, _, .cons ⟨rfl, ?_, r2⟩ .nil, q', es, ep', hq, h2, h3, h4, h5⟩
        rw [upd_ne (ne_of eb e0 (fun z => nomatch z))]
        exact eb
      exact ⟨.ref s.heap.objs.size, _, I3, rfl, q2⟩⟩
end
end Lw
/-! Lw4: sorted of a list of tuples of ints. -/
namespace Lw
open PySem PySem.Spec PyProof.Rows L2
open PySem.W (alike alikeAll)
section
variable {X : Cx}
def rSortL (K : PySem.W.Frag) : List V → Hp → VK → Prop := fun vs H Q => ∃ (a : Addr) (L : List (List Int × Addr)), vs = [.ref a] ∧ SqL K H a (L.map fun x => .ref x.2) ∧ (∀ x ∈ L, H x.2 = some (.tup (x.1.map V.int)) ∧ x.1 ≠ []) ∧
  ∀ (q : Addr) (L' : List (List Int × Addr)), L'.Perm L → H q = none → Q (.ref q) (upd H q (.lst (L'.map fun x => .ref x.2)))
theorem refs_get : ∀ {L : List (List Int × Addr)} {us : List Value} {i : Nat} {b : List Int × Addr}, Vals (L.map fun x => V.ref x.2) us → L[i]? = some b → us[i]? = some (.ref b.2)
  | [], _, _, _, _, e => by simp at e
  | x :: L, _, 0, b, .cons r _, e => by
    cases (Option.some.inj (show some x = some b from e))
    cases r
    rfl
  | x :: L, _, i + 1, b, .cons _ t, e => by
    have := refs_get (i := i) (b := b) t (by simpa using e)
    simpa using this
theorem cr_sortedL (hu : X.A.units + 64 < cLine) : CallR X (.builtin "sorted") (rSortL X.K) := fun pins s σ H vs us Q I r h => by
  obtain ⟨a, L, rfl, hs, hL, q⟩ := h
  obtain rfl := Vals.ref1 r
  obtain ⟨its, rv, hl, hz⟩ := I.list hs
  have len := rv.length
  rw [List.length_map] at len hz
  have tup : ∀ b ∈ L, ∃ ws : List Value, IntsAre ws b.1 ∧ IsTup s.heap b.2 ws.toArray := fun b hb => by
    obtain ⟨ws, rw', t, _⟩ := I.tuple (SqT.of (hL b hb).1)
    exact ⟨ws, by simpa using rw'.ints, t⟩
  have eR : PySem.W.EachIs (fun (v : Value) (b : List Int × Addr) => v = .ref b.2) its L := each_of_get len.symm fun i v b e1 e2 => by
    rw [refs_get rv e2] at e1
    cases e1
    rfl
  have eRd : PySem.W.EachIs (fun (v : Value) (b : List Int × Addr) => ∃ as, Reads s.heap v (encP b) as) its L := each_of_get len.symm fun i v b e1 e2 => by
    rw [refs_get rv e2] at e1
    cases e1
    obtain ⟨ws, hi, ob, t1, t2, n, t3⟩ := tup b (List.mem_of_getElem? e2)
    exact ⟨[], .tuple t1 t2 t3 (by simpa using reads_ints hi)⟩
  refine PySem.W.sorted_data hl.isList eR eRd (fun d hd d' hd' => ?_) (.inl fun d hd => ?_) hz (fun b hb => ?_) fun out ho hE => ?_
  · obtain ⟨b, _, rfl⟩ := List.mem_map.mp hd
    obtain ⟨b', _, rfl⟩ := List.mem_map.mp hd'
    show alike (.tuple _) (.tuple _) = true
    simp only [alike]
    exact alike_ints _ _
  · obtain ⟨b, hb, rfl⟩ := List.mem_map.mp hd
    cases e : b.1 with
    | nil => exact absurd e (hL b hb).2
    | cons n ns => exact ⟨.int n, ns.map PyData.int, by show PyData.tuple (b.1.map PyData.int) = _; rw [e]; rfl⟩
  · show X.A.units + 2 + PyData.depth (.tuple (b.1.map PyData.int)) < cLine
    simp only [PyData.depth, depth_ints]
    omega
  · have perm : (L.mergeSort (PySem.W.dataLe false encP)).Perm L := List.mergeSort_perm _ _
    obtain ⟨e, he⟩ := sortedAll_at s.heap its out.toArray
    have vo : Vals ((L.mergeSort (PySem.W.dataLe false encP)).map fun x => V.ref x.2) out := by
      have go : ∀ {out : List Value} {L : List (List Int × Addr)}, Paired (fun (v : Value) (b : List Int × Addr) => v = .ref b.2) out L → Vals (L.map fun x => V.ref x.2) out := by
        intro out L h
        induction h with
        | nil => exact .nil
        | cons r t ih => exact .cons r ih
      exact go (each_get hE)
    refine ⟨.ref (s.heap.objs.size + 1), _, I.laid (t' := s.toks) (o := .lst ((L.mergeSort (PySem.W.dataLe false encP)).map fun x => V.ref x.2)) (fun _ _ => sortedAll_old) (Nat.le_succ _) ⟨?_, out, e, vo, he⟩, rfl, q _ _ perm (I.hok.fresh (Nat.le_succ _))⟩
    rw [List.length_map, perm.length_eq]
    exact hz
end
end Lw
/-! Lv5: the further rules by data: tuples of ints, sorted, min, dicts with tuple keys. -/
namespace Lv
open PySem PySem.Spec PyProof.Rows L2 Lw
open PySem.W (minD dataLt AlikeAll)

abbrev encI (ns : List Int) : PyData := .tuple (ns.map PyData.int)
section
variable {K : PySem.W.Frag} {ρ : List En} {P : Pd} {d x y : PyData} {ds : List PyData} {te ta ty : TE} {tas : TA} {i : Nat} {l : Addr}
theorem Sh.encI {n : Nat} {ns : List Int} : Sh (n + 1) (encI ns) := Sh.tup (Sh.map fun _ => Sh.int)
theorem eqv_encI (ns ms : List Int) : PyData.eqv (encI ns) (encI ms) = decide (ns = ms) := eqv_map PyData.int eqv_int ns ms
theorem rd_inT (hx : SeqAt.shaped x = true) (hy : SeqAt.shaped (.tuple ds) = true) (q : P (.bool (ds.any fun z => PyData.eqv z x)) ρ) : RD K (rInT K) x (.tuple ds) ρ P := fun G H σ u v Q st ru rv k =>
  ⟨x, ds, (ru.up st.sub).dp hx, (rv.up st.sub).dp hy, hx, hy, k _ _ ρ G H (Nx.refl st) (.bl _) q⟩
theorem RpAll.intsT {G : Hp} {v : V} {ns : List Int} (h : Rp K G v (Lv.encI ns)) : ∃ a, v = .ref a ∧ G a = some (.tup (ns.map V.int)) := by
  cases h with
  | tup hs ha =>
    have e := ha.ints
    subst e
    exact ⟨_, rfl, hs⟩
theorem rd_leE {a b c e : Int} (q : P (.bool (if a = c then decide (b ≤ e) else decide (a ≤ c))) ρ) : RD K (rLeT K) (.tuple [.int a, .int b]) (.tuple [.int c, .int e]) ρ P := fun G H σ u v Q st ru rv k => by
  obtain ⟨p, rfl, hp⟩ := RpAll.intsT (ns := [a, b]) ru
  obtain ⟨q', rfl, hq⟩ := RpAll.intsT (ns := [c, e]) rv
  refine ⟨p, q', [a, b], [c, e], rfl, rfl, .of (st.sub _ _ hp), .of (st.sub _ _ hq), ?_⟩
  have e1 : Ob.lexAt (fun j => decide ([a, b].getD j 0 = [c, e].getD j 0)) (fun j => decide ([a, b].getD j 0 ≤ [c, e].getD j 0)) (decide ([a, b].length ≤ [c, e].length)) 0 (min [a, b].length [c, e].length) = (if a = c then decide (b ≤ e) else decide (a ≤ c)) := by
    show Ob.lexAt _ _ _ 0 2 = _
    unfold Ob.lexAt
    by_cases h1 : a = c
    · by_cases h2 : b = e
      · simp [h1, h2, Ob.lexAt]
      · simp [h1, h2, Ob.lexAt]
    · simp [h1, Ob.lexAt]
  rw [e1]
  exact k _ _ ρ G H (Nx.refl st) (.bl _) q
/-- enumerate(t) -/
def enumD (ds : List PyData) : List PyData := ds.mapIdx fun i d => .tuple [.int (i : Int), d]
theorem enumD_len : (enumD ds).length = ds.length := by unfold enumD; rw [List.length_mapIdx]
theorem enumD_get {i : Nat} : (enumD ds)[i]? = ds[i]?.map fun d => .tuple [.int (i : Int), d] := by unfold enumD; rw [List.getElem?_mapIdx]
theorem walk_enum {G : Hp} {a : Addr} {xs : List V} (h : G a = some (.tup xs)) (r : RpAll K G xs ds) : Walk K ZT (ItE K a) (enumD ds) G where
  go := fun i G' H σ ρ' s1 s2 _ hi => by
    rw [enumD_len] at hi
    have hl : i < xs.length := by rw [r.length]; exact hi
    exact ⟨xs, xs[i], .of (s2.sub _ _ (s1 _ _ h)), List.getElem?_eq_getElem hl⟩
  yld := fun i G' H σ ρ' x H' s1 s2 _ hi ⟨T, v, e1, e2, e3, hx⟩ => by
    subst e1 e3
    obtain ⟨d, hd, rd⟩ := r.getV (hx xs (.of (s2.sub _ _ (s1 _ _ h))))
    refine ⟨.tuple [.int (i : Int), d], upd G' T (.tup [.int (i : Nat), v]), by rw [enumD_get, hd]; rfl, .tup upd_same (.cons (.int _) (.one ((rd.up s1).up (same_new (s2.sub.free e2))))), Fr.newG s2.sub e2, same_upd s2.sub e2⟩
  stop := fun i G' H σ ρ' s1 s2 _ hi => ⟨xs, .of (s2.sub _ _ (s1 _ _ h)), by rw [enumD_len] at hi; rw [r.length]; exact hi⟩
theorem ei_enum {PI : (List En → Prop) → List PyData → List En → Prop} (h : EvA K tas ρ fun es ρ1 => ∃ ds, es = [.tuple ds] ∧ PI ZT (enumD ds) ρ1) : EvI K (iEnumT K tas) ρ PI := fun G H σ R st k =>
  h G H σ _ st fun vs es ρ1 G1 H1 n1 r1 ⟨ds, e, p⟩ => by
    subst e
    cases r1 with
    | cons r1 r2 =>
      cases r2
      cases r1 with
      | @tup a xs _ hs ha => exact ⟨a, xs, rfl, .of (n1.st.sub _ _ hs), k _ _ _ ρ1 G1 H1 n1 (walk_enum hs ha) p⟩
theorem rc_minD {d : PyData} (ha : AlikeAll (d :: ds)) (hz : PyData.depthAll (d :: ds) ≤ 60) (hc : PyData.canLayAll0 (d :: ds) = true) (q : P (minD d ds) ρ) : RC K (rMinD K) [.list (d :: ds)] ρ P := fun G H σ us Q st r k => by
  cases r with
  | cons r1 r2 =>
    cases r2
    cases r1 with
    | @lst a xs _ hs hr =>
      refine ⟨a, xs, d, ds, rfl, .of (st.sub _ _ hs), RpAll.toDp _ _ hc (hr.up st.sub), ha, hz, fun i v e1 e2 => ?_⟩
      obtain ⟨d', h1, h2⟩ := hr.getV e1
      rw [e2] at h1
      cases h1
      exact k v _ ρ G H (Nx.refl st) h2 q
/-- a list of tuples of ints: the tuples' addresses -/
theorem tups_of {G : Hp} : ∀ {vs : List V} {xs : List (List Int)}, RpAll K G vs (xs.map encI) → ∃ L : List (List Int × Addr), vs = L.map (fun x => .ref x.2) ∧ L.map (·.1) = xs ∧ ∀ x ∈ L, G x.2 = some (.tup (x.1.map V.int))
  | _, [], h => by cases h; exact ⟨[], rfl, rfl, fun _ z => nomatch z⟩
  | _, ns :: xs, h => by
    cases h with
    | cons h1 h2 =>
      obtain ⟨a, rfl, ha⟩ := RpAll.intsT h1
      obtain ⟨L, rfl, e2, hL⟩ := tups_of h2
      refine ⟨(ns, a) :: L, rfl, by rw [List.map_cons, e2], fun x hx => ?_⟩
      rcases List.mem_cons.mp hx with rfl | hx
      · exact ha
      · exact hL x hx
theorem tups_rp {G : Hp} : ∀ {L : List (List Int × Addr)}, (∀ x ∈ L, G x.2 = some (.tup (x.1.map V.int))) → RpAll K G (L.map fun x => .ref x.2) ((L.map (·.1)).map encI)
  | [], _ => .nil
  | x :: L, h => .cons (.tup (h x List.mem_cons_self) (.of_ints x.1)) (tups_rp fun y hy => h y (List.mem_cons_of_mem _ hy))
/-- tuples of the heap that G does not know are told to it -/
theorem Nx.tellAll {G H : Hp} {σ : St} : ∀ {L : List (List Int × Addr)}, Sts K G H σ ρ → (∀ x ∈ L, H x.2 = some (.tup (x.1.map V.int))) → ∃ G', Nx K G H ρ G' H σ ρ ∧ ∀ x ∈ L, G' x.2 = some (.tup (x.1.map V.int))
  | [], st, _ => ⟨G, Nx.refl st, fun _ z => nomatch z⟩
  | x :: L, st, h => by
    obtain ⟨G1, n1, h1⟩ := Nx.tellAll (L := L) st fun y hy => h y (List.mem_cons_of_mem _ hy)
    have n2 := Nx.tell n1.st (h x List.mem_cons_self)
    refine ⟨_, n1.trans n2, fun y hy => ?_⟩
    rcases List.mem_cons.mp hy with rfl | hy
    · exact upd_same
    · exact n2.fr.g _ _ (h1 y hy)
theorem rc_sortL {xs : List (List Int)} (hne : ∀ x ∈ xs, x ≠ []) (q : ∀ ys : List (List Int), ys.Perm xs → P (.list (ys.map encI)) ρ) : RC K (rSortL K) [.list (xs.map encI)] ρ P := fun G H σ us Q st r k => by
  cases r with
  | cons r1 r2 =>
    cases r2
    cases r1 with
    | @lst a vs _ hs hr =>
      obtain ⟨L, rfl, e2, hL⟩ := tups_of hr
      refine ⟨a, L, rfl, .of (st.sub _ _ hs), fun x hx => ⟨st.sub _ _ (hL x hx), hne _ (by rw [← e2]; exact List.mem_map.mpr ⟨x, hx, rfl⟩)⟩, fun p L' hp hn => ?_⟩
      have n2 := Nx.newG (o := .lst (L'.map fun x => .ref x.2)) st hn
      refine k _ _ ρ _ _ n2 (.lst upd_same ?_) (q (L'.map (·.1)) (by rw [← e2]; exact hp.map _))
      exact tups_rp fun x hx => same_new (st.sub.free hn) _ _ (hL x (hp.mem_iff.mp hx))
theorem ev_rev {ts : TO} (h : Ev K te ρ fun d ρ1 => EvO K ts ρ1 fun o ρ2 => o = some (-1) ∧ ∃ ds, d = .tuple ds ∧ P (.tuple ds.reverse) ρ2) : Ev K (tRev K te ts) ρ P := fun G H σ Q st k =>
  h G H σ _ st fun v d ρ1 G1 H1 n1 r1 p1 => p1 G1 H1 σ _ n1.st fun o ρ2 G2 H2 n2 ⟨eo, ds, ed, p⟩ => by
    subst ed
    cases r1 with
    | @tup a xs _ hs ha =>
      refine ⟨eo, a, xs, rfl, .of (n2.st.sub _ _ (n2.fr.g _ _ hs)), fun p' hp => ?_⟩
      have n3 := Nx.newG (o := .tup xs.reverse) n2.st hp
      refine k _ _ ρ2 _ _ ((n1.trans n2).trans n3) (.tup upd_same ?_) p
      have rev : ∀ {xs : List V} {ds : List PyData}, RpAll K G1 xs ds → RpAll K G1 xs.reverse ds.reverse := by
        intro xs ds h
        have go : ∀ {xs : List V} {ds : List PyData}, RpAll K G1 xs ds → RpAll K G1 xs.reverse ds.reverse := by
          intro xs ds h
          refine RpAll.of_get (by rw [List.length_reverse, List.length_reverse, h.length]) fun i v d e1 e2 => ?_
          have hi : i < xs.length := by
            have := (List.getElem?_eq_some_iff.mp e1).1
            rw [List.length_reverse] at this
            exact this
          rw [List.getElem?_reverse hi] at e1
          rw [List.getElem?_reverse (by rw [← h.length]; exact hi), ← h.length] at e2
          obtain ⟨d', h1, h2⟩ := h.getV e1
          rw [e2] at h1
          cases h1
          exact h2
        exact go h
      exact ((rev ha).up n2.fr.g).up n3.fr.g
/-- sorted(set(xs)), pairs of small ints: ascending, none twice -/
def pairLt (a b : Int × Int) : Prop := a.1 < b.1 ∨ (a.1 = b.1 ∧ a.2 < b.2)
abbrev encE (e : Int × Int) : PyData := .tuple [.int e.1, .int e.2]
theorem encE_map (xs : List (Int × Int)) : xs.map encE = (xs.map fun e => [e.1, e.2]).map encI := by
  rw [List.map_map]
  rfl
theorem ev_sortSet {Pr : Program} {w : World} (h : Ev K te ρ fun d ρ1 => ∃ xs : List (Int × Int), d = .list (xs.map encE) ∧ xs.length < 64 ∧ (∀ e ∈ xs, 0 ≤ e.1 ∧ e.1 < 64 ∧ 0 ≤ e.2 ∧ e.2 < 64) ∧
    ∀ ys : List (Int × Int), (∀ e, e ∈ ys ↔ e ∈ xs) → ys.Pairwise pairLt → P (.list (ys.map encE)) ρ1) : Ev K (tCB (rSortedT K Pr w) (tCons (tCB (rSetOfT K Pr w) (tCons te tNil)) tNil)) ρ P := fun G H σ Q st k =>
  h G H σ _ st fun v d ρ1 G1 H1 n1 r1 ⟨xs, ed, hz, hb, p⟩ => by
    subst ed
    rw [encE_map] at r1
    cases r1 with
    | @lst l vs _ hs hr =>
      obtain ⟨L, rfl, e2, hL⟩ := tups_of hr
      have hlen : L.length = xs.length := by
        have := congrArg List.length e2
        rw [List.length_map, List.length_map] at this
        exact this
      have hin : ∀ x ∈ L, ∃ e ∈ xs, x.1 = [e.1, e.2] := fun x hx => by
        have m : x.1 ∈ L.map (·.1) := List.mem_map.mpr ⟨x, hx, rfl⟩
        rw [e2] at m
        obtain ⟨e, he, q⟩ := List.mem_map.mp m
        exact ⟨e, he, q.symm⟩
      refine ⟨l, L.map fun x => (x.2, x.1), rfl, ?_, fun q hq => ?_, by rw [List.length_map, hlen]; exact hz, fun a S hn s1 s2 => ?_⟩
      · rw [List.map_map]
        exact .of (n1.st.sub _ _ hs)
      · obtain ⟨x, hx, rfl⟩ := List.mem_map.mp hq
        exact .of (n1.st.sub _ _ (hL x hx))
      have n2 := Nx.newH (o := SetTO Pr w a S) n1.st hn
      have hS : ∀ q ∈ S, ∃ e ∈ xs, q.2 = [e.1, e.2] ∧ G1 q.1 = some (.tup (q.2.map V.int)) := fun q hq => by
        obtain ⟨x, hx, rfl⟩ := List.mem_map.mp (s1 q hq)
        obtain ⟨e, he, q⟩ := hin x hx
        exact ⟨e, he, q, hL x hx⟩
      refine ⟨a, S, 2, 64, rfl, upd_same, fun q hq => ?_, by decide, fun q hq => ?_, fun S' p' pm nd _ pw hn' => ?_⟩
      · obtain ⟨e, he, _, g⟩ := hS q hq
        exact .of (n2.st.sub _ _ g)
      · obtain ⟨e, he, q1, _⟩ := hS q hq
        obtain ⟨b1, b2, b3, b4⟩ := hb e he
        rw [q1]
        exact ⟨rfl, fun m hm => by
          rcases List.mem_cons.mp hm with rfl | hm
          · exact ⟨b1, b2⟩
          · rw [List.mem_singleton.mp hm]; exact ⟨b3, b4⟩⟩
      · -- the pairs
        have hS' : ∀ q ∈ S', ∃ e ∈ xs, q.2 = [e.1, e.2] ∧ G1 q.1 = some (.tup (q.2.map V.int)) := fun q hq => hS q (pm.mem_iff.mp hq)
        have fst : ∀ q : Addr × List Int, (∃ e ∈ xs, q.2 = [e.1, e.2] ∧ G1 q.1 = some (.tup (q.2.map V.int))) → q.2 = [q.2.getD 0 0, q.2.getD 1 0] := fun q ⟨e, _, h1, _⟩ => by rw [h1]; rfl
        let f : Addr × List Int → Int × Int := fun q => (q.2.getD 0 0, q.2.getD 1 0)
        have eq : (S'.map f).map encE = ((S'.map fun q => (q.2, q.1)).map (·.1)).map encI := by
          rw [List.map_map, List.map_map, List.map_map]
          refine List.map_congr_left fun q hq => ?_
          show encE (f q) = encI q.2
          rw [fst q (hS' q hq)]
          rfl
        have n3 := Nx.newG (o := .lst (S'.map fun q => V.ref q.1)) n2.st hn'
        refine k _ _ ρ1 _ _ ((n1.trans n2).trans n3) (.lst upd_same ?_) (p (S'.map f) (fun e => ?_) ?_)
        · rw [eq]
          have t := tups_rp (K := K) (G := upd G1 p' (.lst (S'.map fun q => V.ref q.1))) (L := S'.map fun q => (q.2, q.1)) (fun x hx => by
            obtain ⟨q, hq, rfl⟩ := List.mem_map.mp hx
            obtain ⟨_, _, _, g⟩ := hS' q hq
            exact n3.fr.g _ _ g)
          rw [List.map_map] at t
          exact t
        · constructor
          · intro he
            obtain ⟨q, hq, rfl⟩ := List.mem_map.mp he
            obtain ⟨e, he, q1, _⟩ := hS' q hq
            have : f q = e := by
              show (q.2.getD 0 0, q.2.getD 1 0) = e
              rw [q1]
              rfl
            rw [this]
            exact he
          · intro he
            have m : ([e.1, e.2] : List Int) ∈ L.map (·.1) := by
              rw [e2]
              exact List.mem_map.mpr ⟨e, he, rfl⟩
            obtain ⟨x, hx, ex⟩ := List.mem_map.mp m
            have m2 := s2 (x.2, x.1) (List.mem_map.mpr ⟨x, hx, rfl⟩)
            obtain ⟨q, hq, eq⟩ := List.mem_map.mp m2
            refine List.mem_map.mpr ⟨q, pm.mem_iff.mpr hq, ?_⟩
            have eq : q.2 = x.1 := eq
            show (q.2.getD 0 0, q.2.getD 1 0) = e
            rw [eq, ex]
            rfl
        · rw [List.pairwise_map]
          have nd' : S'.Pairwise (fun q r => q.2 ≠ r.2) := List.pairwise_map.mp nd
          have both := pw.and nd'
          refine both.imp_of_mem fun {q r} hq hr ⟨h1, h2⟩ => ?_
          obtain ⟨e, he, q1, _⟩ := hS' q hq
          obtain ⟨e', he', q1', _⟩ := hS' r hr
          obtain ⟨b1, b2, b3, b4⟩ := hb e he
          obtain ⟨c1, c2, c3, c4⟩ := hb e' he'
          rw [q1, q1'] at h1 h2
          show pairLt (q.2.getD 0 0, q.2.getD 1 0) (r.2.getD 0 0, r.2.getD 1 0)
          rw [q1, q1']
          exact pair_lt h1 h2 ⟨b1, b2⟩ ⟨b3, b4⟩ ⟨c1, c2⟩ ⟨c3, c4⟩
end
end Lv
/-! Lv6: dicts with tuple keys, fresh things of one's own, walks of keys under a lock. -/
namespace Lv
open PySem PySem.Spec PyProof.Rows L2 Lw

/-! ### dicts as lists of pairs -/
def mI (m : List (List Int × Int)) : List (List Int × V) := m.map fun p => (p.1, V.int p.2)
def mB (ks : List (List Int)) : List (List Int × V) := ks.map fun k => (k, V.bl true)
def lookI (m : List (List Int × Int)) (k : List Int) : Option Int := (m.find? fun p => decide (p.1 = k)).map (·.2)
def putI (m : List (List Int × Int)) (k : List Int) (v : Int) : List (List Int × Int) :=
  if (m.any fun p => decide (p.1 = k)) = true then m.map (fun p => if p.1 = k then (p.1, v) else p) else m ++ [(k, v)]
def putB (ks : List (List Int)) (k : List Int) : List (List Int) := if k ∈ ks then ks else ks ++ [k]
theorem inl_inj {k k' : List Int} : ((k.map Sum.inl : List Key) = k'.map Sum.inl) ↔ k = k' :=
  ⟨fun h => (List.map_inj_right (fun _ _ z => Sum.inl.inj z)).mp h, fun h => by rw [h]⟩
theorem kV_inl (ns : List Int) : (ns.map Sum.inl : List Key).map kV = ns.map V.int := by rw [List.map_map]; rfl
theorem valV_I : ∀ (m : List (List Int × Int)) (k : List Int), valV (kvT (mI m)) (k.map Sum.inl) = (lookI m k).map V.int
  | [], k => rfl
  | p :: r, k => by
    have ih := valV_I r k
    show valV ((p.1.map Sum.inl, V.int p.2) :: kvT (mI r)) (k.map Sum.inl) = _
    by_cases h : p.1 = k
    · rw [valV_pos (show ((p.1.map Sum.inl : List Key), V.int p.2).1 = _ from inl_inj.mpr h)]
      unfold lookI
      rw [List.find?_cons_of_pos (by simpa using h)]
      rfl
    · rw [valV_neg (show ¬ ((p.1.map Sum.inl : List Key), V.int p.2).1 = _ from fun z => h (inl_inj.mp z)), ih]
      unfold lookI
      rw [List.find?_cons_of_neg (by simpa using h)]
theorem valV_B : ∀ (ks : List (List Int)) (k : List Int), valV (kvT (mB ks)) (k.map Sum.inl) = if k ∈ ks then some (V.bl true) else none
  | [], k => rfl
  | p :: r, k => by
    have ih := valV_B r k
    show valV ((p.map Sum.inl, V.bl true) :: kvT (mB r)) (k.map Sum.inl) = _
    by_cases h : p = k
    · rw [valV_pos (show ((p.map Sum.inl : List Key), V.bl true).1 = _ from inl_inj.mpr h), if_pos (by rw [h]; exact List.mem_cons_self)]
    · rw [valV_neg (show ¬ ((p.map Sum.inl : List Key), V.bl true).1 = _ from fun z => h (inl_inj.mp z)), ih]
      have e : (k ∈ p :: r) = (k ∈ r) := by rw [List.mem_cons]; exact propext ⟨fun z => z.elim (fun z => absurd z.symm h) id, .inr⟩
      simp only [e]
theorem any_kvT (f : List Int × V → List Int) (m : List (List Int × V)) (k : List Int) (hf : ∀ p, f p = p.1) : ((kvT m).any fun kv => decide (kv.1 = k.map Sum.inl)) = (m.any fun p => decide (f p = k)) := by
  unfold kvT
  rw [List.any_map]
  congr 1
  funext p
  show decide ((p.1.map Sum.inl : List Key) = k.map Sum.inl) = decide (f p = k)
  rw [hf]
  exact decide_eq_decide.mpr inl_inj
theorem putK_I (m : List (List Int × Int)) (k : List Int) (v : Int) : putK (kvT (mI m)) (k.map Sum.inl) (V.int v) = kvT (mI (putI m k v)) := by
  have h := any_kvT (fun p => p.1) (mI m) k fun _ => rfl
  have h2 : ((mI m).any fun p => decide (p.1 = k)) = (m.any fun p => decide (p.1 = k)) := by unfold mI; rw [List.any_map]; rfl
  unfold putK putI
  rw [h, h2]
  split
  · unfold kvT mI
    rw [List.map_map, List.map_map, List.map_map, List.map_map]
    refine List.map_congr_left fun p _ => ?_
    show (if (p.1.map Sum.inl : List Key) = k.map Sum.inl then ((p.1.map Sum.inl : List Key), V.int v) else ((p.1.map Sum.inl : List Key), V.int p.2)) = (((if p.1 = k then (p.1, v) else p).1.map Sum.inl : List Key), V.int (if p.1 = k then (p.1, v) else p).2)
    by_cases z : p.1 = k
    · rw [if_pos (inl_inj.mpr z), if_pos z]
    · rw [if_neg (fun q => z (inl_inj.mp q)), if_neg z]
  · unfold kvT mI
    rw [List.map_append, List.map_append]
    rfl
theorem putK_B (ks : List (List Int)) (k : List Int) : putK (kvT (mB ks)) (k.map Sum.inl) (V.bl true) = kvT (mB (putB ks k)) := by
  have h := any_kvT (fun p => p.1) (mB ks) k fun _ => rfl
  have h2 : ((mB ks).any fun p => decide (p.1 = k)) = decide (k ∈ ks) := by
    unfold mB
    rw [List.any_map, Bool.eq_iff_iff]
    simp
  unfold putK putB
  rw [h, h2]
  by_cases z : k ∈ ks
  · rw [if_pos (decide_eq_true z), if_pos z]
    unfold kvT mB
    rw [List.map_map, List.map_map, List.map_map]
    refine List.map_congr_left fun p _ => ?_
    show (if (p.map Sum.inl : List Key) = k.map Sum.inl then ((p.map Sum.inl : List Key), V.bl true) else ((p.map Sum.inl : List Key), V.bl true)) = _
    split <;> rfl
  · rw [if_neg (by rw [decide_eq_false z]; exact Bool.false_ne_true), if_neg z]
    unfold kvT mB
    rw [List.map_append, List.map_append]
    rfl
theorem kvT_len (m : List (List Int × V)) : (kvT m).length = m.length := by unfold kvT; rw [List.length_map]
theorem mI_len (m : List (List Int × Int)) : (mI m).length = m.length := by unfold mI; rw [List.length_map]
theorem mB_len (ks : List (List Int)) : (mB ks).length = ks.length := by unfold mB; rw [List.length_map]
/-- the dict's content: ints, or marks -/
def lkO (m : Mu) : Option (List (List Int × V)) := match m with
  | .dt kvs => some kvs
  | .lk _ kvs => some kvs
  | .ls _ => none
theorem lkO_rd {K : PySem.W.Frag} {G H : Hp} {l : Addr} {m : Mu} {kvs : List (List Int × V)} (h : MuOk K G H l m) (e : lkO m = some kvs) : Rd H l (.dT (kvT kvs)) := by
  cases m with
  | ls ds => cases e
  | dt k => cases e; exact .inl h
  | lk o k => cases e; exact .inr ⟨o, h⟩

section
variable {K : PySem.W.Frag} {ρ : List En} {P : Pd} {d x y : PyData} {ds : List PyData} {te ta tb ty tx : TE} {tas : TA} {i j : Nat} {l : Addr} {PE : EndD}
/-- d[k], d of ints -/
theorem ev_dget (h0 : ∃ l m, ρ[i]? = some (.ow l m)) (h : Ev K ty ρ fun y ρ1 => ∃ (k : List Int) (v : Int) (l : Addr) (m : Mu) (c : List (List Int × Int)), y = encI k ∧ ρ1[i]? = some (.ow l m) ∧ ρ[i]? = some (.ow l m) ∧ lkO m = some (mI c) ∧ lookI c k = some v ∧ P (.int v) ρ1) :
    Ev K (tDGet (tVar i) ty) ρ P := fun G H σ Q st k => by
  obtain ⟨l0, m0, h0⟩ := h0
  obtain ⟨e1, _⟩ := st.ow i l0 _ h0
  refine ⟨.ref l0, e1, h G H σ _ st fun w y ρ1 G1 H1 n1 r1 ⟨ks, v, l, m, c, ey, p1, p0, pm, pv, p⟩ => ?_⟩
  subst ey
  rw [h0] at p0
  cases p0
  obtain ⟨b, rfl, hb⟩ := RpAll.intsT r1
  obtain ⟨f1, f2, f3⟩ := n1.st.ow i l0 _ p1
  refine ⟨l0, .int v, rfl, .inr ⟨_, ks.map Sum.inl, b, lkO_rd f3 pm, rfl, by rw [kV_inl]; exact n1.st.sub _ _ hb, ?_⟩, k _ _ ρ1 G1 H1 n1 (.int v) p⟩
  rw [valV_I, pv]
  rfl
theorem ev_dinI (h : Ev K ty ρ fun y ρ1 => ∃ (k : List Int) (l : Addr) (m : Mu) (c : List (List Int × Int)), y = encI k ∧ ρ1[i]? = some (.ow l m) ∧ lkO m = some (mI c) ∧ P (.bool (lookI c k).isSome) ρ1) :
    Ev K (tDIn ty (tVar i)) ρ P := fun G H σ Q st k =>
  h G H σ _ st fun w y ρ1 G1 H1 n1 r1 ⟨ks, l, m, c, ey, p1, pm, p⟩ => by
    subst ey
    obtain ⟨b, rfl, hb⟩ := RpAll.intsT r1
    obtain ⟨f1, f2, f3⟩ := n1.st.ow i l _ p1
    refine ⟨.ref l, f1, l, _, rfl, .inr ⟨_, ks.map Sum.inl, b, lkO_rd f3 pm, rfl, by rw [kV_inl]; exact n1.st.sub _ _ hb, rfl⟩, k _ _ ρ1 G1 H1 n1 (.bl _) ?_⟩
    rw [valV_I, Option.isSome_map]
    exact p
theorem ev_dninI (h : Ev K ty ρ fun y ρ1 => ∃ (k : List Int) (l : Addr) (m : Mu) (c : List (List Int × Int)), y = encI k ∧ ρ1[i]? = some (.ow l m) ∧ lkO m = some (mI c) ∧ P (.bool (!(lookI c k).isSome)) ρ1) :
    Ev K (tDNotIn ty (tVar i)) ρ P := fun G H σ Q st k =>
  h G H σ _ st fun w y ρ1 G1 H1 n1 r1 ⟨ks, l, m, c, ey, p1, pm, p⟩ => by
    subst ey
    obtain ⟨b, rfl, hb⟩ := RpAll.intsT r1
    obtain ⟨f1, f2, f3⟩ := n1.st.ow i l _ p1
    refine ⟨.ref l, f1, l, _, rfl, .inr ⟨_, ks.map Sum.inl, b, lkO_rd f3 pm, rfl, by rw [kV_inl]; exact n1.st.sub _ _ hb, rfl⟩, k _ _ ρ1 G1 H1 n1 (.bl _) ?_⟩
    rw [valV_I, Option.isSome_map]
    exact p
/-- d.get(k, x) -/
theorem ev_dget2 (h0 : ∃ l m kvs, ρ[i]? = some (.ow l m) ∧ lkO m = some kvs) (h : Ev K ty ρ fun y ρ1 => Ev K tx ρ1 fun z ρ2 => ∃ (k : List Int) (l : Addr) (m : Mu) (c : List (List Int × Int)), y = encI k ∧ ρ2[i]? = some (.ow l m) ∧ ρ[i]? = some (.ow l m) ∧ lkO m = some (mI c) ∧ P (((lookI c k).map PyData.int).getD z) ρ2) :
    Ev K (tDGet2 (tVar i) ty tx) ρ P := fun G H σ Q st k => by
  obtain ⟨l0, m0, kvs0, h0, h00⟩ := h0
  obtain ⟨e1, _, e3⟩ := st.ow i l0 _ h0
  refine ⟨.ref l0, e1, l0, rfl, .inr ⟨_, lkO_rd e3 h00⟩, h G H σ _ st fun w y ρ1 G1 H1 n1 r1 p1 => p1 G1 H1 σ _ n1.st fun w2 z ρ2 G2 H2 n2 r2 ⟨ks, l, m, c, ey, p1, p0, pm, p⟩ => ?_⟩
  subst ey
  rw [h0] at p0
  cases p0
  obtain ⟨b, rfl, hb⟩ := RpAll.intsT r1
  obtain ⟨f1, f2, f3⟩ := n2.st.ow i l0 _ p1
  refine ⟨_, .inr ⟨_, ks.map Sum.inl, b, lkO_rd f3 pm, rfl, by rw [kV_inl]; exact n2.st.sub _ _ (n2.fr.g _ _ hb), rfl⟩, k _ _ ρ2 G2 H2 (n1.trans n2) ?_ p⟩
  rw [valV_I]
  cases lookI c ks with
  | none => exact r2
  | some v => exact .int v
/-- d[k] = n -/
theorem es_dputI {tv : TE} (h : Ev K tv ρ fun v ρ1 => (∃ l m, ρ1[i]? = some (.ow l m)) ∧ Ev K ty ρ1 fun y ρ2 => ∃ (n : Int) (k : List Int) (l : Addr) (c : List (List Int × Int)), v = .int n ∧ y = encI k ∧ ρ1[i]? = some (.ow l (.dt (mI c))) ∧ ρ2[i]? = some (.ow l (.dt (mI c))) ∧ c.length < 100000 ∧ PE.nx (ρ2.set i (.ow l (.dt (mI (putI c k n)))))) :
    Es K (sDPut (tVar i) ty tv) ρ PE := fun G H σ D st k1 _ _ _ =>
  h G H σ _ st fun w v ρ1 G1 H1 n1 r1 ⟨⟨l0, m0, h0⟩, p1⟩ => by
    obtain ⟨e1, _⟩ := n1.st.ow i l0 _ h0
    refine ⟨.ref l0, e1, p1 G1 H1 σ _ n1.st fun w2 y ρ2 G2 H2 n2 r2 ⟨n, ks, l, c, ev, ey, p0, p2, hz, p⟩ => ?_⟩
    subst ev ey
    cases r1
    rw [h0] at p0
    cases p0
    obtain ⟨b, rfl, hb⟩ := RpAll.intsT r2
    obtain ⟨f1, f2, f3⟩ := n2.st.ow i l0 _ p2
    have f3 : H2 l0 = some (.dT (kvT (mI c))) := f3
    refine ⟨l0, _, rfl, .inr ⟨_, ks.map Sum.inl, b, f3, rfl, by rw [kV_inl]; exact n2.st.sub _ _ hb, by rw [kvT_len, mI_len]; exact Nat.lt_of_lt_of_le hz (by decide), rfl⟩, ?_⟩
    rw [putK_I]
    exact k1 σ _ G2 _ ((n1.trans n2).trans (n2.st.write (m' := .dt (mI (putI c ks n))) p2 (show upd H2 l0 _ l0 = _ from upd_same))) p
theorem es_dputB {tv : TE} (h : Ev K tv ρ fun v ρ1 => (∃ l m, ρ1[i]? = some (.ow l m)) ∧ Ev K ty ρ1 fun y ρ2 => ∃ (k : List Int) (l : Addr) (c : List (List Int)), v = .bool true ∧ y = encI k ∧ ρ1[i]? = some (.ow l (.dt (mB c))) ∧ ρ2[i]? = some (.ow l (.dt (mB c))) ∧ c.length < 100000 ∧ PE.nx (ρ2.set i (.ow l (.dt (mB (putB c k)))))) :
    Es K (sDPut (tVar i) ty tv) ρ PE := fun G H σ D st k1 _ _ _ =>
  h G H σ _ st fun w v ρ1 G1 H1 n1 r1 ⟨⟨l0, m0, h0⟩, p1⟩ => by
    obtain ⟨e1, _⟩ := n1.st.ow i l0 _ h0
    refine ⟨.ref l0, e1, p1 G1 H1 σ _ n1.st fun w2 y ρ2 G2 H2 n2 r2 ⟨ks, l, c, ev, ey, p0, p2, hz, p⟩ => ?_⟩
    subst ev ey
    cases r1
    rw [h0] at p0
    cases p0
    obtain ⟨b, rfl, hb⟩ := RpAll.intsT r2
    obtain ⟨f1, f2, f3⟩ := n2.st.ow i l0 _ p2
    have f3 : H2 l0 = some (.dT (kvT (mB c))) := f3
    refine ⟨l0, _, rfl, .inr ⟨_, ks.map Sum.inl, b, f3, rfl, by rw [kV_inl]; exact n2.st.sub _ _ hb, by rw [kvT_len, mB_len]; exact Nat.lt_of_lt_of_le hz (by decide), rfl⟩, ?_⟩
    rw [putK_B]
    exact k1 σ _ G2 _ ((n1.trans n2).trans (n2.st.write (m' := .dt (mB (putB c ks))) p2 (show upd H2 l0 _ l0 = _ from upd_same))) p
/-- sorted(d.keys()), d of marks -/
theorem ev_sortKeys {c : List (List Int)} (h0 : ρ[i]? = some (.ow l (.dt (mB c)))) (hne : ∀ x ∈ c, x ≠ []) (q : ∀ ys : List (List Int), ys.Perm c → P (.list (ys.map encI)) ρ) :
    Ev K (tCB rSortK (tCons (tBM0 K "dict" rKeysT (tVar i)) tNil)) ρ P := fun G H σ Q st k => by
  obtain ⟨e1, e2, e3⟩ := st.ow i l _ h0
  have e3 : H l = some (.dT (kvT (mB c))) := e3
  refine ⟨.ref l, e1, .inr (.inr (.inl ⟨rfl, .inr ⟨_, e3⟩⟩)), l, _, rfl, rfl, e3, fun p hp => ?_⟩
  have n1 := Nx.newH (o := keysO p l) st hp
  refine ⟨p, l, _, c, rfl, upd_same, by rw [upd_ne (ne_of_none e3 hp)]; exact e3, ?_, hne, fun q' L pm hL hn => ?_⟩
  · unfold kvT mB
    rw [List.map_map, List.map_map]
    rfl
  · obtain ⟨G', n2, hG⟩ := Nx.tellAll (L := L) n1.st hL
    have n3 := Nx.newG (o := .lst (L.map fun x => .ref x.2)) n2.st hn
    refine k _ _ ρ _ _ ((n1.trans n2).trans n3) (.lst upd_same (tups_rp fun x hx => n3.fr.g _ _ (hG x hx))) (q _ pm)
/-- a thing of one's own, locked while e is read -/
theorem ev_lock {kvs : List (List Int × V)} {t : TE} (h0 : ρ[i]? = some (.ow l (.dt kvs))) (h : ∀ o, Ev K t (ρ.set i (.ow l (.lk o kvs))) fun d ρ1 => ρ1[i]? = some (.ow l (.lk o kvs)) ∧ P d (ρ1.set i (.ow l (.dt kvs)))) : Ev K (tLockE t) ρ P := fun G H σ Q st k => by
  obtain ⟨e1, e2, e3⟩ := st.ow i l _ h0
  have e3 : H l = some (.dT (kvT kvs)) := e3
  refine ⟨l, _, e3, trivial, fun o => ?_⟩
  have n1 := st.write (m' := .lk o kvs) (o := .frz o (.dT (kvT kvs))) h0 (show upd H l _ l = _ from upd_same)
  refine h o G _ σ _ n1.st fun v d ρ1 G1 H1 n2 r2 ⟨p1, p⟩ => ?_
  obtain ⟨f1, f2, f3⟩ := n2.st.ow i l _ p1
  have f3 : H1 l = some (.frz o (.dT (kvT kvs))) := f3
  have n3 := n2.st.write (m' := .dt kvs) (o := .dT (kvT kvs)) p1 (show upd H1 l _ l = _ from upd_same)
  exact ⟨f3, k v d _ _ _ ((n1.trans n2).trans n3) r2 p⟩
/-- .. its keys -/
def ZK (i : Nat) (l : Addr) (o : Obj) (kvs : List (List Int × V)) : List En → Prop := fun ρ => ρ[i]? = some (.ow l (.lk o kvs))
theorem walk_keys {G : Hp} {o : Obj} {kvs : List (List Int × V)} : Walk K (ZK i l o kvs) (Itkt l o (kvT kvs)) (kvs.map fun p => encI p.1) G where
  go := fun n G' H σ ρ' s1 s2 z hi => ⟨(s2.ow i l _ z).2.2, by rw [kvT_len]; rw [List.length_map] at hi; exact hi⟩
  yld := fun n G' H σ ρ' x H' s1 s2 z hi ⟨e, k, v, q, hk, ex, hq⟩ => by
    subst e ex
    unfold kvT at hk
    rw [List.getElem?_map] at hk
    obtain ⟨p, hp, ep⟩ := Option.map_eq_some_iff.mp hk
    have ek : k = p.1.map Sum.inl := (congrArg Prod.fst ep).symm
    subst ek
    rw [kV_inl] at hq
    have n := Nx.tell s2 hq
    refine ⟨encI p.1, _, by rw [List.getElem?_map, hp]; rfl, .tup upd_same (.of_ints _), ?_, n.st.sub⟩
    by_cases hg : G' q = none
    · refine ⟨fun _ _ e _ => e, fun _ e => e, same_new hg, fun a y e1 e2 nt _ => ?_⟩
      have na : a ≠ q := fun z => by subst z; rw [hq] at e2; cases e2; exact nt _ rfl
      rw [upd_ne na]
      exact e1
    · refine ⟨fun _ _ e _ => e, fun _ e => e, n.fr.g, fun a y e1 e2 nt _ => ?_⟩
      have na : a ≠ q := fun z => by subst z; exact hg e1
      rw [upd_ne na]
      exact e1
  stop := fun n G' H σ ρ' s1 s2 z hi => ⟨(s2.ow i l _ z).2.2, by rw [kvT_len]; rw [List.length_map] at hi; exact hi⟩
theorem ei_keys {PI : (List En → Prop) → List PyData → List En → Prop} {o : Obj} {kvs : List (List Int × V)} (h0 : ρ[i]? = some (.ow l (.lk o kvs))) (p : PI (ZK i l o kvs) (kvs.map fun p => encI p.1) ρ) : EvI K (iKeysMT (tVar i)) ρ PI := fun G H σ R st k => by
  obtain ⟨e1, e2, e3⟩ := st.ow i l _ h0
  exact ⟨.ref l, e1, l, o, _, rfl, e3, k _ _ _ ρ G H (Nx.refl st) walk_keys p⟩
/-- an owned list compared -/
theorem st_peek {G H : Hp} {σ : St} (st : Sts K G H σ ρ) (h : ρ[i]? = some (.ow l (.ls ds))) : σ[i]? = some (some (.ref l)) ∧ Rp K H (.ref l) (.list ds) := by
  obtain ⟨e1, e2, xs, e3, e4⟩ := st.ow i l _ h
  exact ⟨e1, .lst e3 (e4.up st.sub)⟩
theorem ev_neO (h0 : ρ[i]? = some (.ow l (.ls ds))) (hx : SeqAt.shaped (.list ds) = true) (h : Ev K tb ρ fun y ρ1 => SeqAt.shaped y = true ∧ ρ1[i]? = some (.ow l (.ls ds)) ∧ P (.bool (!PyData.eqv (.list ds) y)) ρ1) : Ev K (tOp (rNeD K) (tVar i) tb) ρ P := fun G H σ Q st k => by
  obtain ⟨e1, _⟩ := st_peek st h0
  refine ⟨.ref l, e1, h G H σ _ st fun v y ρ1 G1 H1 n1 r1 ⟨hy, p1, p⟩ => ?_⟩
  obtain ⟨_, e2⟩ := st_peek n1.st p1
  exact ⟨.list ds, y, e2.dp hx, (r1.up n1.st.sub).dp hy, hx, hy, k _ _ ρ1 G1 H1 n1 (.bl _) p⟩
end

/-! ### fresh things of one's own -/
section
variable {K : PySem.W.Frag} {ρ : List En} {te : TE} {tas : TA} {i j : Nat} {l : Addr} {PE : EndD}
/-- an expression that gives a new thing, known to nobody -/
def EvN (K : PySem.W.Frag) (te : TE) (ρ : List En) (P : Mu → List En → Prop) : Prop :=
  ∀ (G H : Hp) (σ : St) (Q : VK), Sts K G H σ ρ → (∀ p m ρ' G' H', Nx K G H ρ G' H' σ ρ' → H p = none → ¬ Own ρ' p → G' p = none → MuOk K G' H' p m → P m ρ' → Q (.ref p) H') → te σ H Q
theorem en_lst {P : Mu → List En → Prop} (h : EvA K tas ρ fun ds ρ1 => ds.length ≤ 100000 ∧ P (.ls ds) ρ1) : EvN K (tLst tas) ρ P := fun G H σ Q st k =>
  h G H σ _ st fun vs ds ρ1 G1 H1 n1 r1 ⟨hz, p⟩ => ⟨by rw [r1.length]; exact Nat.le_trans hz (by decide), fun a ha => by
    have n2 := Nx.newH (o := .lst vs) n1.st ha
    exact k a (.ls ds) ρ1 G1 _ (n1.trans n2) (n1.fr.free ha) (n1.st.noOwn ha) (n1.st.sub.free ha) ⟨vs, upd_same, r1⟩ p⟩
/-- {k: n} -/
theorem en_disp {tk tv : TE} {P : Mu → List En → Prop} (h : Ev K tk ρ fun x ρ1 => Ev K tv ρ1 fun y ρ2 => ∃ (k : List Int) (n : Int), x = encI k ∧ y = .int n ∧ P (.dt (mI [(k, n)])) ρ2) : EvN K (tDisp1 tk tv) ρ P := fun G H σ Q st k p hp => by
  have n0 := Nx.newH (o := .dT []) st hp
  have no := st.noOwn hp
  have g0 : G p = none := st.sub.free hp
  refine h G _ σ _ n0.st fun x dx ρ1 G1 H1 n1 r1 p1 => p1 G1 H1 σ _ n1.st fun y dy ρ2 G2 H2 n2 r2 ⟨ks, n, ex, ey, q⟩ => ?_
  subst ex ey
  cases r2
  obtain ⟨b, rfl, hb⟩ := RpAll.intsT r1
  have n12 := n1.trans n2
  have e2 : H2 p = some (.dT []) := n12.fr.keep p _ upd_same no
  have g2 : G2 p = none := n12.fr.apart p _ g0 upd_same (fun _ z => nomatch z) no
  have no2 : ¬ Own ρ2 p := fun z => by
    rcases n12.own p z with q | q
    · exact no q
    · rw [upd_same] at q; cases q
  have hbp : H2 b = some (.tup (ks.map V.int)) := n2.st.sub _ _ (n2.fr.g _ _ hb)
  refine ⟨e2, b, ks.map Sum.inl, rfl, by rw [kV_inl]; exact hbp, ?_⟩
  have s2 : Same G2 (upd H2 p (.dT [((ks.map Sum.inl : List Key), V.int n)])) := fun c z e => by
    have nc : c ≠ p := fun q => by subst q; rw [g2] at e; cases e
    rw [upd_ne nc]
    exact n2.st.sub _ _ e
  have st3 : Sts K G2 (upd H2 p (.dT [((ks.map Sum.inl : List Key), V.int n)])) σ ρ2 := n2.st.fr (Same.refl _) s2 fun l hl => ⟨upd_ne fun q => by subst q; exact no2 hl, by obtain ⟨i, m, e⟩ := hl; exact (n2.st.ow i l m e).2.1⟩
  have n02 := n0.trans n12
  refine k p (.dt (mI [(ks, n)])) ρ2 G2 _ ⟨st3, ⟨fun a o e nn => ?_, fun a e => ?_, n02.fr.g, n02.fr.apart⟩, n02.own⟩ hp no2 g2 (show upd H2 p _ p = _ from upd_same) q
  · rw [upd_ne (ne_of_none e hp)]
    exact n02.fr.keep a o e nn
  · by_cases z : a = p
    · subst z; rw [upd_same]; exact fun z => nomatch z
    · rw [upd_ne z]; exact n02.fr.there a e
theorem Nx.setOwn {G H G1 H1 : Hp} {σ : St} {ρ1 : List En} {p : Addr} {m : Mu} (n : Nx K G H ρ G1 H1 σ ρ1) (hp : H p = none) (no : ¬ Own ρ1 p) (g : G1 p = none) (hm : MuOk K G1 H1 p m) : Nx K G H ρ G1 H1 (σ.set i (some (.ref p))) (ρ1.set i (.ow p m)) :=
  ⟨n.st.setOw g hm fun j m e => absurd ⟨j, m, e⟩ no, n.fr, fun l' hl' => by
    rcases own_set hl' with z | ⟨m, z⟩
    · exact n.own l' z
    · cases z; exact .inr hp⟩
/-- name = e, e a fresh thing -/
theorem es_new (h : EvN K te ρ fun m ρ1 => ∀ p, ¬ Own ρ1 p → PE.nx (ρ1.set i (.ow p m))) : Es K (tAsg te (gName i)) ρ PE := fun G H σ D st k1 _ _ _ =>
  h G H σ _ st fun p m ρ1 G1 H1 n1 hp no g hm q => k1 _ _ G1 H1 (n1.setOwn hp no g hm) (q p no)
/-- a fresh thing lives on -/
theorem fresh_on {G H G1 H1 G2 H2 : Hp} {σ : St} {ρ1 ρ2 : List En} {p : Addr} {m : Mu} (n2 : Nx K G1 H1 ρ1 G2 H2 σ ρ2) (no : ¬ Own ρ1 p) (g : G1 p = none) (hm : MuOk K G1 H1 p m) : ¬ Own ρ2 p ∧ G2 p = none ∧ MuOk K G2 H2 p m := by
  obtain ⟨o, eo, nt⟩ := hm.some
  refine ⟨fun z => ?_, n2.fr.apart p o g eo nt no, hm.up n2.fr.g (by rw [eo]; exact n2.fr.keep p o eo no)⟩
  rcases n2.own p z with q | q
  · exact no q
  · rw [eo] at q; cases q
/-- a, b = e1, e2: e2 a fresh thing -/
theorem es_parN (hij : i ≠ j) (h : Ev K te ρ fun d ρ1 => EvN K tb ρ1 fun m ρ2 => ∀ p, ¬ Own ρ2 p → PE.nx ((ρ2.set i (.da d)).set j (.ow p m))) : Es K (tPar i j (tCons te (tCons tb tNil))) ρ PE := fun G H σ D st k1 _ _ _ =>
  h G H σ _ st fun v d ρ1 G1 H1 n1 r1 p1 => p1 G1 H1 σ _ n1.st fun p m ρ2 G2 H2 n2 hp no g hm q => by
    refine ⟨v, .ref p, rfl, ?_⟩
    have n3 := Nx.setDa (i := i) n2.st (r1.up n2.fr.g)
    have no3 : ¬ Own (ρ2.set i (.da d)) p := fun z => (own_set z).elim no fun ⟨_, z⟩ => nomatch z
    exact k1 _ _ G2 H2 (((n1.trans n2).trans n3).setOwn (n1.fr.free hp) no3 g hm) (q p no)
/-- .. e1 a fresh thing -/
theorem es_parM (h : EvN K te ρ fun m ρ1 => Ev K tb ρ1 fun d ρ2 => ∀ p, ¬ Own ρ2 p → PE.nx ((ρ2.set i (.ow p m)).set j (.da d))) : Es K (tPar i j (tCons te (tCons tb tNil))) ρ PE := fun G H σ D st k1 _ _ _ =>
  h G H σ _ st fun p m ρ1 G1 H1 n1 hp no g hm p1 => p1 G1 H1 σ _ n1.st fun v d ρ2 G2 H2 n2 r2 q => by
    refine ⟨.ref p, v, rfl, ?_⟩
    obtain ⟨no2, g2, hm2⟩ := fresh_on (G := G) (H := H) n2 no g hm
    have n3 : Nx K G H ρ G2 H2 (σ.set i (some (.ref p))) (ρ2.set i (.ow p m)) := (n1.trans n2).setOwn hp no2 g2 hm2
    exact k1 _ _ G2 H2 (n3.trans (Nx.setDa n3.st r2)) (q p no2)
/-- a, b, c, d = e1, e2, e3, e4: e2 a fresh thing -/
theorem es_four {i1 i2 i3 i4 : Nat} {t1 t2 t3 t4 : TE} (h : Ev K t1 ρ fun d1 ρ1 => EvN K t2 ρ1 fun m ρ2 => Ev K t3 ρ2 fun d3 ρ3 => Ev K t4 ρ3 fun d4 ρ4 => ∀ p, ¬ Own ρ4 p → PE.nx ((((ρ4.set i1 (.da d1)).set i2 (.ow p m)).set i3 (.da d3)).set i4 (.da d4))) :
    Es K (tAsg (tTup (tCons t1 (tCons t2 (tCons t3 (tCons t4 tNil))))) (gTup K 4 (gCons (gName i1) (gCons (gName i2) (gCons (gName i3) (gCons (gName i4) gNil)))))) ρ PE := fun G H σ D st k1 _ _ _ =>
  h G H σ _ st fun v1 d1 ρ1 G1 H1 n1 r1 p1 => p1 G1 H1 σ _ n1.st fun p m ρ2 G2 H2 n2 hp no g hm p2 => p2 G2 H2 σ _ n2.st fun v3 d3 ρ3 G3 H3 n3 r3 p3 => p3 G3 H3 σ _ n3.st fun v4 d4 ρ4 G4 H4 n4 r4 q => by
    refine ⟨by show 4 ≤ sizeLine; decide, fun a ha => ⟨a, _, rfl, .of upd_same, rfl, ?_⟩⟩
    have n34 := n3.trans n4
    have n5 := Nx.newH (o := .tup [v1, .ref p, v3, v4]) n4.st ha
    obtain ⟨no4, g4, hm4⟩ := fresh_on (G := G) (H := H) (n34.trans n5) no g hm
    have n25 := n2.trans (n34.trans n5)
    have r1' := r1.up n25.fr.g
    have r3' := r3.up (n4.trans n5).fr.g
    have r4' := r4.up n5.fr.g
    have m1 := Nx.setDa (i := i1) n5.st r1'
    have no5 : ¬ Own (ρ4.set i1 (.da d1)) p := fun z => (own_set z).elim no4 fun ⟨_, z⟩ => nomatch z
    have m2 := ((n1.trans n25).trans m1).setOwn (i := i2) (n1.fr.free hp) no5 g4 hm4
    have m3 := Nx.setDa (i := i3) m2.st r3'
    have m4 := Nx.setDa (i := i4) m3.st r4'
    exact ⟨_, _, rfl, _, _, rfl, _, _, rfl, _, _, rfl, rfl, k1 _ _ _ _ ((m2.trans m3).trans m4) (q p no4)⟩
/-- a def that gives a new dict of ints -/
def spD (K : PySem.W.Frag) (n : Nat) (R : List PyData → (List (List Int × Int) → Prop) → Prop) : Sp := fun vs H Q _ => vs.length = n ∧ ∃ (G : Hp) (ds : List PyData), Same G H ∧ RpAll K G vs ds ∧
  ∃ Pw : List (List Int × Int) → Prop, R ds Pw ∧ ∀ p c G' H', Fr none0 G H G' H' → Same G' H' → H p = none → G' p = none → H' p = some (.dT (kvT (mI c))) → Pw c → Q (.ref p) H'
theorem en_callD {n : Nat} {R : List PyData → (List (List Int × Int) → Prop) → Prop} {E : XK} {P : Mu → List En → Prop} (h : EvA K tas ρ fun ds ρ1 => ds.length = n ∧ R ds fun c => P (.dt (mI c)) ρ1) : EvN K (tCall (spD K n R) [] E tas) ρ P := fun G H σ Q st k =>
  h G H σ _ st fun vs ds ρ1 G1 H1 n1 r1 ⟨hn, hr⟩ => by
    show spD K n R (vs ++ []) H1 Q E
    rw [List.append_nil]
    refine ⟨by rw [r1.length]; exact hn, G1, ds, n1.st.sub, r1, _, hr, fun p c G2 H2 f s hp g e q => ?_⟩
    have n2 := Nx.pure n1.st f s
    exact k p (.dt (mI c)) ρ1 G2 H2 (n1.trans n2) (n1.fr.free hp) (n1.st.noOwn hp) g e q
variable {P : Program} {w : World} {mg : Str → Option Value} {base : Heap} {k : Nat} {x : Str} {ps N : List Str} {sp : Sp} {st : Stmt}
/-- THE RULE for a def that gives the dict at its slot i0 -/
theorem mk_calD (i0 : Nat) (R : List PyData → (List (List Int × Int) → Prop) → Prop) (D : DefG K mg x st) (S : FnScope N ps (defScope st))
    (hb : ∀ (kV doc pm : Value) (an : Option Addr) (cdv ct : Value) (us : List Value), us.length = ps.length → bindArgs (PySem.W.fnOf x x (defArgs st) (defBody st) (defScope st) .none kV doc pm an cdv ct) ⟨us, []⟩ = pure (ps.zip us))
    (body : ∀ (f : Addr) (cdv : Value) (A : Around) (outer : List Env) (s : Shared) (H : Hp) (E : XK), Room k (A.deeper (envOfC x (defScope st) s.heap.objs.size f cdv)) →
      ∃ t, PSs (cxOf CX0 P w K mg base N x (defScope st) f cdv A outer s H E).nox (defBody st) (tSeq t (tRet (tVar i0))) ∧
        ∀ (ds : List PyData) (Pw : List (List Int × Int) → Prop), ds.length = ps.length → R ds Pw → Es K t (ds.map En.da ++ List.replicate (N.length - ps.length) En.un) { nx := fun ρ' => ∃ l c, ρ'[i0]? = some (.ow l (.dt (mI c))) ∧ Pw c }) :
    Cal P w K mg base (k + 1) x ps (spD K ps.length R) := by
  obtain ⟨f, fd, F, g⟩ := D.ex
  refine ⟨f, fd, F.ok S (fun vs H Q E h => h.1) (fun cdv A outer s H vs Q E hr h => ?_), g, F.kp, F.binds hb⟩
  obtain ⟨t, h1, h2⟩ := body f cdv A outer s H E hr
  refine ⟨_, h1, ?_⟩
  obtain ⟨hl, G, ds, hs, hrp, Pw, hR, q⟩ := h
  have e : L2.start N vs = vs.map some ++ List.replicate (N.length - ps.length) none := by unfold L2.start; rw [hl]
  rw [e]
  refine h2 ds Pw (by rw [← hrp.length]; exact hl) hR G H _ _ (sts_start hs hrp) (fun σ' ρ' G' H' n ⟨l, c, e0, p⟩ => ?_) (fun _ _ _ _ _ _ _ _ p => p.elim) (fun _ _ _ _ _ p => p.elim) (fun _ _ _ _ _ p => p.elim)
  obtain ⟨f1, f2, f3⟩ := n.st.ow i0 l _ e0
  have hl0 : H l = none := by
    rcases n.own l ⟨i0, _, e0⟩ with z | z
    · exact (start_noOwn z).elim
    · exact z
  exact ⟨.ref l, f1, q l c G' H' (n.fr.mono fun l z => (start_noOwn z).elim) n.st.sub hl0 f2 f3 p⟩
end
end Lv
/-! Ld0: the text's defs, their scopes, what the module's names hold. -/
namespace Lv
open PySem PySem.Spec PyProof.Rows L2 Lw
def topS (i : Nat) : Stmt := PySem.Challenge.pw_levellers_k42_whole_prices.main.body.getD i (.Pass ⟨0, 0, 0, 0⟩)
abbrev s_is_in : Stmt := topS 8
theorem sc_is_in : FnScope ["value", "least", "most"] ["value", "least", "most"] (defScope s_is_in) := ⟨rfl, rfl, rfl, by decide +kernel, rfl, by decide +kernel, by decide +kernel⟩
abbrev s_is_edge : Stmt := topS 13
theorem sc_is_edge : FnScope ["value", "many", "one"] ["value", "many"] (defScope s_is_edge) := ⟨rfl, rfl, rfl, by decide +kernel, rfl, by decide +kernel, by decide +kernel⟩
abbrev s_need_web : Stmt := topS 14
theorem sc_need_web : FnScope ["web", "index", "one"] ["web"] (defScope s_need_web) := ⟨rfl, rfl, rfl, by decide +kernel, rfl, by decide +kernel, by decide +kernel⟩
abbrev s_need_roof : Stmt := topS 15
theorem sc_need_roof : FnScope ["roof"] ["roof"] (defScope s_need_roof) := ⟨rfl, rfl, rfl, by decide +kernel, rfl, by decide +kernel, by decide +kernel⟩
abbrev s_need_table : Stmt := topS 16
theorem sc_need_table : FnScope ["web", "roof"] ["web", "roof"] (defScope s_need_table) := ⟨rfl, rfl, rfl, by decide +kernel, rfl, by decide +kernel, by decide +kernel⟩
abbrev s_need_heights : Stmt := topS 17
theorem sc_need_heights : FnScope ["many", "roof", "heights", "index", "one"] ["many", "roof", "heights"] (defScope s_need_heights) := ⟨rfl, rfl, rfl, by decide +kernel, rfl, by decide +kernel, by decide +kernel⟩
abbrev s_need_one : Stmt := topS 18
theorem sc_need_one : FnScope ["web", "roof", "heights"] ["web", "roof", "heights"] (defScope s_need_one) := ⟨rfl, rfl, rfl, by decide +kernel, rfl, by decide +kernel, by decide +kernel⟩
abbrev s_need_two : Stmt := topS 19
theorem sc_need_two : FnScope ["web", "roof", "one", "other"] ["web", "roof", "one", "other"] (defScope s_need_two) := ⟨rfl, rfl, rfl, by decide +kernel, rfl, by decide +kernel, by decide +kernel⟩
abbrev s_beside_in : Stmt := topS 20
theorem sc_beside_in : FnScope ["web", "place", "one", "other"] ["web", "place"] (defScope s_beside_in) := ⟨rfl, rfl, rfl, by decide +kernel, rfl, by decide +kernel, by decide +kernel⟩
abbrev s_all_heights : Stmt := topS 21
theorem sc_all_heights : FnScope ["many", "roof", "found", "place", "more", "one", "height"] ["many", "roof"] (defScope s_all_heights) := ⟨rfl, rfl, rfl, by decide +kernel, rfl, by decide +kernel, by decide +kernel⟩
abbrev s_power : Stmt := topS 22
theorem sc_power : FnScope ["base", "times", "found", "k"] ["base", "times"] (defScope s_power) := ⟨rfl, rfl, rfl, by decide +kernel, rfl, by decide +kernel, by decide +kernel⟩
abbrev s_need_listed : Stmt := topS 23
theorem sc_need_listed : FnScope ["web", "roof"] ["web", "roof"] (defScope s_need_listed) := ⟨rfl, rfl, rfl, by decide +kernel, rfl, by decide +kernel, by decide +kernel⟩
abbrev s_raise_in : Stmt := topS 26
theorem sc_raise_in : FnScope ["web", "roof", "heights", "found", "place", "lower", "one"] ["web", "roof", "heights"] (defScope s_raise_in) := ⟨rfl, rfl, rfl, by decide +kernel, rfl, by decide +kernel, by decide +kernel⟩
abbrev s_lower_in : Stmt := topS 27
theorem sc_lower_in : FnScope ["web", "heights", "found", "place", "higher", "one"] ["web", "heights"] (defScope s_lower_in) := ⟨rfl, rfl, rfl, by decide +kernel, rfl, by decide +kernel, by decide +kernel⟩
abbrev s_changed : Stmt := topS 28
theorem sc_changed : FnScope ["heights", "deed", "up", "place"] ["heights", "deed"] (defScope s_changed) := ⟨rfl, rfl, rfl, by decide +kernel, rfl, by decide +kernel, by decide +kernel⟩
abbrev s_doable : Stmt := topS 29
theorem sc_doable : FnScope ["web", "roof", "heights", "up", "place"] ["web", "roof", "heights"] (defScope s_doable) := ⟨rfl, rfl, rfl, by decide +kernel, rfl, by decide +kernel, by decide +kernel⟩
abbrev s_is_deed : Stmt := topS 30
theorem sc_is_deed : FnScope ["web", "value"] ["web", "value"] (defScope s_is_deed) := ⟨rfl, rfl, rfl, by decide +kernel, rfl, by decide +kernel, by decide +kernel⟩
abbrev s_is_deeds : Stmt := topS 31
theorem sc_is_deeds : FnScope ["web", "value", "one"] ["web", "value"] (defScope s_is_deeds) := ⟨rfl, rfl, rfl, by decide +kernel, rfl, by decide +kernel, by decide +kernel⟩
abbrev s_line_in : Stmt := topS 32
theorem sc_line_in : FnScope ["web", "roof", "heights", "word", "found", "deed"] ["web", "roof", "heights", "word"] (defScope s_line_in) := ⟨rfl, rfl, rfl, by decide +kernel, rfl, by decide +kernel, by decide +kernel⟩
abbrev s_steep_in : Stmt := topS 35
theorem sc_steep_in : FnScope ["web", "heights", "found", "one", "other"] ["web", "heights"] (defScope s_steep_in) := ⟨rfl, rfl, rfl, by decide +kernel, rfl, by decide +kernel, by decide +kernel⟩
abbrev s_comes_in : Stmt := topS 37
theorem sc_comes_in : FnScope ["web", "one", "other", "some", "edge"] ["web", "one", "other"] (defScope s_comes_in) := ⟨rfl, rfl, rfl, by decide +kernel, rfl, by decide +kernel, by decide +kernel⟩
abbrev s_come_in : Stmt := topS 38
theorem sc_come_in : FnScope ["web", "roof", "heights", "other"] ["web", "roof", "heights"] (defScope s_come_in) := ⟨rfl, rfl, rfl, by decide +kernel, rfl, by decide +kernel, by decide +kernel⟩
abbrev s_need_prices : Stmt := topS 41
theorem sc_need_prices : FnScope ["web", "prices", "one", "price"] ["web", "prices"] (defScope s_need_prices) := ⟨rfl, rfl, rfl, by decide +kernel, rfl, by decide +kernel, by decide +kernel⟩
abbrev s_cost_in : Stmt := topS 42
theorem sc_cost_in : FnScope ["one", "other", "prices", "found", "place", "height", "up", "down"] ["one", "other", "prices"] (defScope s_cost_in) := ⟨rfl, rfl, rfl, by decide +kernel, rfl, by decide +kernel, by decide +kernel⟩
abbrev s_cheapest : Stmt := topS 43
theorem sc_cheapest : FnScope ["web", "roof", "one", "other", "prices"] ["web", "roof", "one", "other", "prices"] (defScope s_cheapest) := ⟨rfl, rfl, rfl, by decide +kernel, rfl, by decide +kernel, by decide +kernel⟩
abbrev s_dearest : Stmt := topS 44
theorem sc_dearest : FnScope ["web", "roof", "heights", "prices", "best", "one"] ["web", "roof", "heights", "prices"] (defScope s_dearest) := ⟨rfl, rfl, rfl, by decide +kernel, rfl, by decide +kernel, by decide +kernel⟩
abbrev s_cheapest_gentle : Stmt := topS 45
theorem sc_cheapest_gentle : FnScope ["web", "roof", "heights", "prices", "some", "soft", "one", "edge"] ["web", "roof", "heights", "prices"] (defScope s_cheapest_gentle) := ⟨rfl, rfl, rfl, by decide +kernel, rfl, by decide +kernel, by decide +kernel⟩
abbrev s_within : Stmt := topS 46
theorem sc_within : FnScope ["web", "roof", "heights", "prices", "most", "one"] ["web", "roof", "heights", "prices", "most"] (defScope s_within) := ⟨rfl, rfl, rfl, by decide +kernel, rfl, by decide +kernel, by decide +kernel⟩
abbrev s_shows_cheap : Stmt := topS 47
theorem sc_shows_cheap : FnScope ["web", "roof", "one", "other", "prices", "value", "there", "up", "place"] ["web", "roof", "one", "other", "prices", "value"] (defScope s_shows_cheap) := ⟨rfl, rfl, rfl, by decide +kernel, rfl, by decide +kernel, by decide +kernel⟩
abbrev s__law_taken : Stmt := topS 49
theorem sc__law_taken : FnScope ["_law_row", "_law_many_here", "_law_found", "_law_cell"] ["_law_row", "_law_many_here"] (defScope s__law_taken) := ⟨rfl, rfl, rfl, by decide +kernel, rfl, by decide +kernel, by decide +kernel⟩
abbrev s__law_pick : Stmt := topS 50
theorem sc__law_pick : FnScope ["_law_row", "_law_things"] ["_law_row", "_law_things"] (defScope s__law_pick) := ⟨rfl, rfl, rfl, by decide +kernel, rfl, by decide +kernel, by decide +kernel⟩
abbrev s__law_many : Stmt := topS 51
theorem sc__law_many : FnScope ["_law_roof", "_law_many_here", "_law_found", "_law_k"] ["_law_roof", "_law_many_here"] (defScope s__law_many) := ⟨rfl, rfl, rfl, by decide +kernel, rfl, by decide +kernel, by decide +kernel⟩
abbrev s__law_table : Stmt := topS 52
theorem sc__law_table : FnScope ["_law_row", "_law_most", "_law_size", "_law_many_here", "_law_way", "_law_thin", "_law_edges", "_law_roof", "_law_count", "_law_k", "_law_j"] ["_law_row", "_law_most", "_law_size"] (defScope s__law_table) := ⟨rfl, rfl, rfl, by decide +kernel, rfl, by decide +kernel, by decide +kernel⟩
abbrev s__law_heights : Stmt := topS 53
theorem sc__law_heights : FnScope ["_law_row", "_law_many_here", "_law_roof", "_law_way", "_law_found", "_law_k", "_law_near"] ["_law_row", "_law_many_here", "_law_roof"] (defScope s__law_heights) := ⟨rfl, rfl, rfl, by decide +kernel, rfl, by decide +kernel, by decide +kernel⟩
abbrev s__law_prices : Stmt := topS 54
theorem sc__law_prices : FnScope ["_law_row", "_law_web", "_law_top", "_law_k"] ["_law_row", "_law_web"] (defScope s__law_prices) := ⟨rfl, rfl, rfl, by decide +kernel, rfl, by decide +kernel, by decide +kernel⟩
abbrev s__law_step : Stmt := topS 55
theorem sc__law_step : FnScope ["_law_heights_here", "_law_deed", "_law_found"] ["_law_heights_here", "_law_deed"] (defScope s__law_step) := ⟨rfl, rfl, rfl, by decide +kernel, rfl, by decide +kernel, by decide +kernel⟩
abbrev s__law_beside : Stmt := topS 56
theorem sc__law_beside : FnScope ["_law_web", "_law_place", "_law_k"] ["_law_web", "_law_place"] (defScope s__law_beside) := ⟨rfl, rfl, rfl, by decide +kernel, rfl, by decide +kernel, by decide +kernel⟩
abbrev s__law_deeds : Stmt := topS 57
theorem sc__law_deeds : FnScope ["_law_web", "_law_roof", "_law_heights_here", "_law_up", "_law_down", "_law_k", "_law_some", "_law_j"] ["_law_web", "_law_roof", "_law_heights_here"] (defScope s__law_deeds) := ⟨rfl, rfl, rfl, by decide +kernel, rfl, by decide +kernel, by decide +kernel⟩
abbrev s__law_after : Stmt := topS 58
theorem sc__law_after : FnScope ["_law_web", "_law_roof", "_law_heights_here", "_law_deed"] ["_law_web", "_law_roof", "_law_heights_here"] (defScope s__law_after) := ⟨rfl, rfl, rfl, by decide +kernel, rfl, by decide +kernel, by decide +kernel⟩
abbrev s__law_there : Stmt := topS 59
theorem sc__law_there : FnScope ["_law_row", "_law_web", "_law_roof", "_law_heights_here", "_law_here", "_law_turn"] ["_law_row", "_law_web", "_law_roof", "_law_heights_here"] (defScope s__law_there) := ⟨rfl, rfl, rfl, by decide +kernel, rfl, by decide +kernel, by decide +kernel⟩
abbrev s__law_costs : Stmt := topS 60
theorem sc__law_costs : FnScope ["_law_web", "_law_roof", "_law_heights_here", "_law_prices_here", "_law_found", "_law_fresh", "_law_more", "_law_here", "_law_deed", "_law_there_here", "_law_cost"] ["_law_web", "_law_roof", "_law_heights_here", "_law_prices_here"] (defScope s__law_costs) := ⟨rfl, rfl, rfl, by decide +kernel, rfl, by decide +kernel, by decide +kernel⟩
abbrev s__law_alike : Stmt := topS 61
theorem sc__law_alike : FnScope ["_law_found", "_law_due", "_law_k"] ["_law_found", "_law_due"] (defScope s__law_alike) := ⟨rfl, rfl, rfl, by decide +kernel, rfl, by decide +kernel, by decide +kernel⟩
abbrev s__law_steep : Stmt := topS 62
theorem sc__law_steep : FnScope ["_law_web", "_law_heights_here", "_law_found", "_law_a", "_law_b"] ["_law_web", "_law_heights_here"] (defScope s__law_steep) := ⟨rfl, rfl, rfl, by decide +kernel, rfl, by decide +kernel, by decide +kernel⟩
abbrev s__law_off : Stmt := topS 63
theorem sc__law_off : FnScope ["_law_one", "_law_other", "_law_k"] ["_law_one", "_law_other"] (defScope s__law_off) := ⟨rfl, rfl, rfl, by decide +kernel, rfl, by decide +kernel, by decide +kernel⟩
abbrev s__law_ways : Stmt := topS 64
theorem sc__law_ways : FnScope ["_law_web", "_law_roof", "_law_one", "_law_other", "_law_most", "_law_rows", "_law_turn", "_law_more", "_law_word_here", "_law_here", "_law_deed", "_law_there_here"] ["_law_web", "_law_roof", "_law_one", "_law_other", "_law_most"] (defScope s__law_ways) := ⟨rfl, rfl, rfl, by decide +kernel, rfl, by decide +kernel, by decide +kernel⟩
abbrev s__law_word : Stmt := topS 65
theorem sc__law_word : FnScope ["_law_row", "_law_web", "_law_roof", "_law_heights_here", "_law_most", "_law_word_here", "_law_here", "_law_turn", "_law_deed"] ["_law_row", "_law_web", "_law_roof", "_law_heights_here", "_law_most"] (defScope s__law_word) := ⟨rfl, rfl, rfl, by decide +kernel, rfl, by decide +kernel, by decide +kernel⟩
abbrev s__law_is_vector : Stmt := topS 66
theorem sc__law_is_vector : FnScope ["_law_value", "_law_size", "_law_x"] ["_law_value", "_law_size"] (defScope s__law_is_vector) := ⟨rfl, rfl, rfl, by decide +kernel, rfl, by decide +kernel, by decide +kernel⟩
abbrev s__law_is_deed : Stmt := topS 67
theorem sc__law_is_deed : FnScope ["_law_web", "_law_value"] ["_law_web", "_law_value"] (defScope s__law_is_deed) := ⟨rfl, rfl, rfl, by decide +kernel, rfl, by decide +kernel, by decide +kernel⟩
abbrev s__law_run : Stmt := topS 68
theorem sc__law_run : FnScope ["_law_web", "_law_roof", "_law_heights_here", "_law_word_here", "_law_deed"] ["_law_web", "_law_roof", "_law_heights_here", "_law_word_here"] (defScope s__law_run) := ⟨rfl, rfl, rfl, by decide +kernel, rfl, by decide +kernel, by decide +kernel⟩
abbrev s_law : Stmt := topS 69
theorem sc_law : FnScope ["_law_script", "_law_row", "_law_web", "_law_roof", "_law_one", "_law_prices_here", "_law_other", "_law_costs_here", "_law_far", "_law_most", "_law_words", "_law_word_here", "_law_values", "_law_turn", "_law_value", "_law_due", "_law_here", "_law_deed", "_law_up", "_law_k"] ["_law_script"] (defScope s_law) := ⟨rfl, rfl, rfl, by decide +kernel, rfl, by decide +kernel, by decide +kernel⟩
theorem _root_.L2.Room.u1 {k : Nat} {A : Around} (r : Room k A) : A.units + 1 < cLine := by have := r.un; omega
theorem _root_.L2.Room.u65 {k : Nat} {A : Around} (r : Room k A) : A.units + 65 < cLine := by have := r.un; omega
/-- the built-ins are the built-ins, the constants what the text wrote -/
structure Bi (mg : Str → Option Value) : Prop where
  len : mg "len" = none
  range : mg "range" = none
  max : mg "max" = none
  min : mg "min" = none
  int : mg "int" = none
  isinstance : mg "isinstance" = none
  bool : mg "bool" = none
  tuple : mg "tuple" = none
  list : mg "list" = none
  sorted : mg "sorted" = none
  set : mg "set" = none
  sum : mg "sum" = none
  abs : mg "abs" = none
  enumerate : mg "enumerate" = none
  str : mg "str" = none
  MOST_PLACES : ∃ t, mg "MOST_PLACES" = some (.int 9 t)
  MOST_ROOF : ∃ t, mg "MOST_ROOF" = some (.int 9 t)
  MOST_LISTED : ∃ t, mg "MOST_LISTED" = some (.int 3000 t)
  MOST_WORD : ∃ t, mg "MOST_WORD" = some (.int 200 t)
  HIGH : ∃ t, mg "HIGH" = some (.int 2 t)
  MOST_PRICE : ∃ t, mg "MOST_PRICE" = some (.int 1000 t)

section
variable {X : Cx} (K : PySem.W.Frag) {e : Expr} {es : List Expr} {te to : TE} {t : TA} {pos : Pos}
theorem kop_eqD (h : X.K = K) (hu : X.A.units + 64 < cLine) : OpR X (compareOp .Eq) (rEqD K) := h ▸ op_eqD hu
theorem kop_neD (h : X.K = K) (hu : X.A.units + 64 < cLine) : OpR X (compareOp .NotEq) (rNeD K) := h ▸ op_neD hu
theorem kop_notInD (h : X.K = K) (hu : X.A.units + 65 < cLine) : OpR X (compareOp .NotIn) (rNotInD K) := h ▸ op_notInD hu
theorem kop_inT (h : X.K = K) (hu : X.A.units + 65 < cLine) : OpR X (compareOp .In) (rInT K) := h ▸ op_inT hu
theorem kop_leT (h : X.K = K) (hu : X.A.units < cLine) : OpR X (compareOp .LtE) (rLeT K) := h ▸ op_leT hu
theorem kix_seq (h : X.K = K) : IxR X (rIx K) := h ▸ ix_seq
theorem ksl_tupA (h : X.K = K) : SlR X (rSlA K) := h ▸ sl_tupA
theorem kop_catA (h : X.K = K) : OpR X (binaryOp .Add) (rCatA K) := h ▸ op_catA
theorem kcr_minD (h : X.K = K) (hc : X.calm = true) (hu : X.A.units + 64 < cLine) : CallR X (.builtin "min") (rMinD K) := h ▸ cr_minD hc hu
theorem kcr_sum (h : X.K = K) (hc : X.calm = true) : CallR X (.builtin "sum") (rSum K) := h ▸ cr_sum hc
theorem kcr_max (h : X.K = K) (hc : X.calm = true) : CallR X (.builtin "max") (rMax K) := h ▸ cr_max hc
theorem kcr_min (h : X.K = K) (hc : X.calm = true) : CallR X (.builtin "min") (rMin K) := h ▸ cr_min hc
theorem kcall_isi (h : X.K = K) : CallR X (.builtin "isinstance") (rIsi K) := h ▸ call_isi
theorem kcall_isiT (h : X.K = K) : CallR X (.builtin "isinstance") (rIsiT K) := h ▸ call_isiT
theorem kcr_sortedL (h : X.K = K) (hu : X.A.units + 64 < cLine) : CallR X (.builtin "sorted") (rSortL K) := h ▸ cr_sortedL hu
theorem kcall_len (h : X.K = K) : CallR X (.builtin "len") (fun xs H Q => ∃ x n, xs = [x] ∧ LenV K x H n ∧ Q (.int n) H) := h ▸ call_len
theorem kcall_list_of (h : X.K = K) : CallR X (.type "list") (fun xs H Q => ∃ p ys, xs = [.ref p] ∧ (SqL K H p ys ∨ SqT K H p ys) ∧ ∀ l, H l = none → Q (.ref l) (upd H l (.lst ys))) := h ▸ call_list_of
theorem kcall_tuple_of (h : X.K = K) : CallR X (.type "tuple") (fun xs H Q => ∃ p ys, xs = [.ref p] ∧ ((SqL K H p ys ∧ ∀ l, H l = none → Q (.ref l) (upd H l (.tup ys))) ∨ (SqT K H p ys ∧ Q (.ref p) H))) := h ▸ call_tuple_of
theorem kpi_list (h : X.K = K) {tg : Expr} (he : PE X e te) : PI X tg e (iList K te) := h ▸ pi_list he
theorem kpi_tup (h : X.K = K) {tg : Expr} (he : PE X e te) : PI X tg e (iTup K te) := h ▸ pi_tup he
theorem kpg_tup (h : X.K = K) {k : Nat} {u : TGs} {n : Nat} (hc : X.calm = true) (hg : PGs X es u)
    (hn : (assignEach es X.env).length = n := by rfl) (hst : (assignEach es X.env).findIdx? (·.1) = none := by rfl) : PG X (.Tuple es k pos) (gTup K n u) := h ▸ pg_tup hc hg hn hst
end
end Lv
/-! Lm0: webs, heights, deeds, costs in plain Lean, and how the program writes them. -/
namespace Lv
open PySem PySem.Spec PyProof.Rows L2 Lw

def at0 (h : List Int) (k : Nat) : Int := h.getD k 0
abbrev Edges := List (Nat × Nat)
abbrev eN (e : Nat × Nat) : PyData := .tuple [.int (e.1 : Int), .int (e.2 : Int)]
abbrev webD (n : Nat) (E : Edges) : PyData := .tuple [.int (n : Int), .tuple (E.map eN)]
def eLt (a b : Nat × Nat) : Prop := a.1 < b.1 ∨ (a.1 = b.1 ∧ a.2 < b.2)
structure Web (n : Nat) (E : Edges) : Prop where
  n1 : 1 ≤ n
  n4 : n ≤ 4
  ok : ∀ e ∈ E, e.1 < e.2 ∧ e.2 < n
  srt : E.Pairwise eLt
  len : E.length ≤ 64
structure IsH (n r : Nat) (h : List Int) : Prop where
  len : h.length = n
  lo : ∀ k < n, 0 ≤ at0 h k
  hi : ∀ k < n, at0 h k ≤ r
abbrev Adj (E : Edges) (a b : Nat) : Prop := (a, b) ∈ E ∨ (b, a) ∈ E
abbrev Deed := Bool × Nat
abbrev encD (d : Deed) : PyData := .tuple [.bool d.1, .int (d.2 : Int)]
def canUp (n : Nat) (E : Edges) (r : Nat) (h : List Int) (k : Nat) : Bool := decide (at0 h k < r) && (List.range n).all fun j => !decide (Adj E j k) || decide (at0 h k ≤ at0 h j)
def canDn (n : Nat) (E : Edges) (h : List Int) (k : Nat) : Bool := decide (0 < at0 h k) && (List.range n).all fun j => !decide (Adj E j k) || decide (at0 h j ≤ at0 h k)
def deedsL (n : Nat) (E : Edges) (r : Nat) (h : List Int) : List Deed :=
  ((List.range n).filter (canUp n E r h)).map (fun k => (true, k)) ++ ((List.range n).filter (canDn n E h)).map (fun k => (false, k))
def step (h : List Int) (d : Deed) : List Int := h.set d.2 (at0 h d.2 + if d.1 then 1 else -1)
def HIGH : Int := 2
def steepL (E : Edges) (h : List Int) : List (Nat × Nat) := E.filterMap fun e =>
  if 2 ≤ at0 h e.2 - at0 h e.1 then some (e.1, e.2) else if 2 ≤ at0 h e.1 - at0 h e.2 then some (e.2, e.1) else none
def comesB (E : Edges) (one other : List Int) : Bool := (steepL E other).all fun e => !(decide (at0 other e.1 < at0 one e.1) || decide (at0 one e.2 < at0 other e.2))
def allH : Nat → Nat → List (List Int)
  | 0, _ => [[]]
  | n + 1, r => (allH n r).flatMap fun one => (List.range (r + 1)).map fun (h : Nat) => one ++ [(h : Int)]
def pr (prices : List (Int × Int)) (k : Nat) : Int × Int := prices.getD k (0, 0)
def cost1 (prices : List (Int × Int)) (one other : List Int) (k : Nat) : Int := (pr prices k).1 * max 0 (at0 other k - at0 one k) + (pr prices k).2 * max 0 (at0 one k - at0 other k)
def costN (prices : List (Int × Int)) (one other : List Int) (n : Nat) : Int := ((List.range n).map (cost1 prices one other)).sum
structure IsP (n : Nat) (p : List (Int × Int)) : Prop where
  len : p.length = n
  lo : ∀ k < n, 0 ≤ (pr p k).1 ∧ 0 ≤ (pr p k).2
  hi : ∀ k < n, (pr p k).1 ≤ 1000 ∧ (pr p k).2 ≤ 1000
def dcost (prices : List (Int × Int)) (d : Deed) : Int := if d.1 then (pr prices d.2).1 else (pr prices d.2).2
def wcost (prices : List (Int × Int)) (w : List Deed) : Int := (w.map (dcost prices)).sum
def runW (n : Nat) (E : Edges) (r : Nat) : List Int → List Deed → Option (List Int)
  | h, [] => some h
  | h, d :: w => if d ∈ deedsL n E r h then runW n E r (step h d) w else none
def offN (one other : List Int) : Nat := ((List.range one.length).map fun k => (max (at0 one k) (at0 other k) - min (at0 one k) (at0 other k)).toNat).sum

/-! ### reading -/
theorem at0_get {h : List Int} {k : Nat} (hk : k < h.length) : h[k]? = some (at0 h k) := by
  unfold at0
  rw [List.getD_eq_getElem?_getD, List.getElem?_eq_getElem hk]
  rfl
theorem atH {h : List Int} {k : Nat} (hk : k < h.length) : atI (h.map PyData.int) (k : Int) = some (.int (at0 h k)) :=
  atI_nat (by rw [List.getElem?_map, at0_get hk]; rfl)
theorem atM {α : Type} {xs : List α} {f : α → PyData} {k : Nat} {x : α} (h : xs[k]? = some x) : atI (xs.map f) (k : Int) = some (f x) :=
  atI_nat (by rw [List.getElem?_map, h]; rfl)
theorem pr_get {p : List (Int × Int)} {k : Nat} (hk : k < p.length) : p[k]? = some (pr p k) := by
  unfold pr
  rw [List.getD_eq_getElem?_getD, List.getElem?_eq_getElem hk]
  rfl
theorem Sh.eN {n : Nat} {e : Nat × Nat} : Sh (n + 1) (eN e) := Sh.tup (Sh.cons Sh.int (Sh.cons Sh.int Sh.nil))
theorem Sh.encE {n : Nat} {e : Int × Int} : Sh (n + 1) (encE e) := Sh.tup (Sh.cons Sh.int (Sh.cons Sh.int Sh.nil))
theorem Sh.encD {n : Nat} {d : Deed} : Sh (n + 1) (encD d) := Sh.tup (Sh.cons Sh.bool (Sh.cons Sh.int Sh.nil))
theorem okI {i : Int} : SeqAt.shaped (.int i) = true := (Sh.int (n := 1)).ok
theorem okB {i : Bool} : SeqAt.shaped (.bool i) = true := (Sh.bool (n := 1)).ok
theorem okN : SeqAt.shaped .none = true := (Sh.non (n := 1)).ok
theorem okNil : SeqAt.shaped (.list []) = true := (Sh.lst (n := 1) Sh.nil).ok
theorem okM {α : Type} {xs : List α} {f : α → PyData} (h : ∀ x, Sh 8 (f x)) : SeqAt.shaped (.list (xs.map f)) = true := (Sh.lst (Sh.map h)).ok
theorem okMT {α : Type} {xs : List α} {f : α → PyData} (h : ∀ x, Sh 8 (f x)) : SeqAt.shaped (.tuple (xs.map f)) = true := (Sh.tup (Sh.map h)).ok
theorem okE {ns : List Int} : SeqAt.shaped (encI ns) = true := (Sh.encI (n := 1)).ok
theorem okeN {e : Nat × Nat} : SeqAt.shaped (eN e) = true := (Sh.eN (n := 1)).ok
theorem okD {d : Deed} : SeqAt.shaped (encD d) = true := (Sh.encD (n := 1)).ok
theorem eqv_mapNil {α : Type} (xs : List α) (f : α → PyData) : PyData.eqv (.list (xs.map f)) (.list []) = xs.isEmpty := by
  rw [eqv_nil]
  cases xs <;> rfl
theorem eqv_eN (a b : Nat × Nat) : PyData.eqv (eN a) (eN b) = decide (a = b) := by
  show PyData.eqvAll [.int a.1, .int a.2] [.int b.1, .int b.2] = _
  simp only [PyData.eqvAll, eqv_int, Bool.and_true]
  obtain ⟨a1, a2⟩ := a
  obtain ⟨b1, b2⟩ := b
  rw [Bool.eq_iff_iff]
  simp
  omega
theorem eqv_encD (a b : Deed) : PyData.eqv (encD a) (encD b) = decide (a = b) := by
  show PyData.eqvAll [.bool a.1, .int a.2] [.bool b.1, .int b.2] = _
  simp only [PyData.eqvAll, eqv_int, eqv_bool, Bool.and_true]
  obtain ⟨a1, a2⟩ := a
  obtain ⟨b1, b2⟩ := b
  rw [Bool.eq_iff_iff]
  simp
  intro _
  omega
theorem any_eN (E : Edges) (e : Nat × Nat) : ((E.map eN).any fun z => PyData.eqv z (eN e)) = decide (e ∈ E) := by
  rw [List.any_map, Bool.eq_iff_iff, List.any_eq_true]
  simp only [Function.comp, eqv_eN, decide_eq_true_eq]
  constructor
  · rintro ⟨x, h, rfl⟩; exact h
  · intro h; exact ⟨e, h, rfl⟩
theorem any_encD (E : List Deed) (e : Deed) : ((E.map encD).any fun z => PyData.eqv z (encD e)) = decide (e ∈ E) := by
  rw [List.any_map, Bool.eq_iff_iff, List.any_eq_true]
  simp only [Function.comp, eqv_encD, decide_eq_true_eq]
  constructor
  · rintro ⟨x, h, rfl⟩; exact h
  · intro h; exact ⟨e, h, rfl⟩
theorem map_range_rng (n : Nat) : rngD 0 n = (List.range n).map fun (k : Nat) => PyData.int (k : Int) := by
  unfold rngD
  refine List.map_congr_left fun k _ => ?_
  rw [Int.zero_add]
theorem rng0 {n : Nat} : rngD 0 ((n : Int)).toNat = (List.range n).map fun (k : Nat) => PyData.int (k : Int) := by rw [Int.toNat_natCast, map_range_rng]
theorem filter_len {α : Type} {xs : List α} {c : α → Bool} : (xs.filter c).length ≤ xs.length := List.length_filter_le ..
end Lv
/-! Ld1: the checks of the program's arguments. -/
namespace Lv
open PySem PySem.Spec PyProof.Rows L2 Lw
section
variable {P : Program} {w : World} {K : PySem.W.Frag} {mg : Str → Option Value} {base : Heap}
def isInB (d : PyData) (a b : Int) : Bool := match d with
  | .int i => decide (a ≤ i) && decide (i ≤ b)
  | _ => false
def R_is_in : List PyData → (PyData → Prop) → Prop := fun ds Pw => ∃ d a b, ds = [d, .int a, .int b] ∧ Pw (.bool (isInB d a b))
theorem w_is_in (B : Bi mg) (D : DefG K mg "is_in" s_is_in) : Cal P w K mg base 1 "is_in" ["value", "least", "most"] (spP K 3 R_is_in) := by
  refine mk_cal (k := 0) (N := ["value", "least", "most"]) R_is_in D sc_is_in (fun _ _ _ _ _ _ us hl => match us, hl with | [_, _, _], _ => rfl) (fun f cdv A outer s H E hr => ⟨_, (pss_one (ps_ret (pe_and (pe_callB (kcall_isi K rfl) (by rfl) B.isinstance (by decide +kernel) (pa_cons (pv 0) (pa_cons (pe_bltn (v := .ty "int") (by rfl) B.int (by decide +kernel) rfl) pa_nil))) (pe_and (pe_not (pe_callB (kcall_isi K rfl) (by rfl) B.isinstance (by decide +kernel) (pa_cons (pv 0) (pa_cons (pe_bltn (v := .ty "bool") (by rfl) B.bool (by decide +kernel) rfl) pa_nil)))) (pe_one (pe_chain op_le op_le (pv 1) (pv 0) (pv 2))))))), fun ds Pw hl hR => ?_⟩)
  obtain ⟨d, a, b, rfl, hp⟩ := hR
  refine es_ret (ev_andV (ev_isi kit_int (ev_var rfl ⟨_, rfl, fun e => ?_, fun e => ?_⟩)))
  · refine ev_andV (ev_notV (ev_isi kit_bool (ev_var rfl ⟨_, rfl, _, rfl, fun e2 => ?_, fun e2 => ?_⟩)))
    · cases d with
      | int i =>
        refine ev_chain (ev_var rfl (ev_var rfl (rd_b ⟨_, rfl, fun h1 => ?_, fun h1 => ?_⟩)))
        · refine ev_var rfl (rd_b ?_)
          have e3 : isInB (.int i) a b = decide (i ≤ b) := by show (decide (a ≤ i) && decide (i ≤ b)) = _; rw [h1, Bool.true_and]
          rw [e3] at hp
          exact hp
        · have e3 : isInB (.int i) a b = false := by show (decide (a ≤ i) && decide (i ≤ b)) = _; rw [h1, Bool.false_and]
          rw [e3] at hp
          exact hp
      | bool _ => cases e2
      | _ => cases e
    · cases d with
      | bool _ => exact hp
      | _ => cases e2
  · cases d with
    | int i => cases e
    | _ => exact hp
theorem isIn_nat {i a b : Nat} (h : a ≤ i ∧ i ≤ b) : isInB (.int (i : Int)) a b = true := by
  show (decide ((a : Int) ≤ i) && decide ((i : Int) ≤ b)) = true
  rw [decide_eq_true (by omega), decide_eq_true (by omega)]
  rfl
theorem isIn_int {i a b : Int} (h : a ≤ i ∧ i ≤ b) : isInB (.int i) a b = true := by
  show (decide (a ≤ i) && decide (i ≤ b)) = true
  rw [decide_eq_true h.1, decide_eq_true h.2]
  rfl

def R_is_edge : List PyData → (PyData → Prop) → Prop := fun ds Pw => ∃ (e : Nat × Nat) (n : Nat), ds = [eN e, .int n] ∧ e.1 < e.2 ∧ e.2 < n ∧ Pw (.bool true)
theorem w_is_edge (B : Bi mg) (D : DefG K mg "is_edge" s_is_edge) (C_is_in : Cal P w K mg base 1 "is_in" ["value", "least", "most"] (spP K 3 R_is_in)) : Cal P w K mg base 2 "is_edge" ["value", "many"] (spP K 2 R_is_edge) := by
  refine mk_cal (k := 1) (N := ["value", "many", "one"]) R_is_edge D sc_is_edge (fun _ _ _ _ _ _ us hl => match us, hl with | [_, _], _ => rfl) (fun f cdv A outer s H E hr => ⟨_, (pss_cons (ps_if (PW.pt (pw_or (pt_not (pt_val (pe_callB (kcall_isi K rfl) (by rfl) B.isinstance (by decide +kernel) (pa_cons (pv 0) (pa_cons (pe_bltn (v := .ty "tuple") (by rfl) B.tuple (by decide +kernel) rfl) pa_nil))))) (pw_or1 (pt_cmpR (kop_neD K rfl hr.units) (pe_callB (kcall_len K rfl) (by rfl) B.len (by decide +kernel) (pa_cons (pv 0) pa_nil)) pe_int (nomark _))))) (pss_one (ps_ret pe_bl)) pss_nil)
      (pss_one (ps_ret (pe_and (pe_cmpR (kop_eqD K rfl hr.units) (pe_lc (own := [("one", 2)]) rfl sc_is_edge.nd (kpi_tup K rfl (pv 0)) (blkOk_by (N := ["value", "many", "one"]) (sc := defScope s_is_edge) (by decide +kernel)) (fun _ _ _ _ _ => (pg_name (i := 2) sc_is_edge.nd rfl (by first | exact .inl rfl | exact .inr rfl))) (fun _ _ _ _ _ => (pts_one (pt_not (pt_val (pe_cal (C_is_in.mono (by decide)) hr (by rfl) (pa_cons (pv 2) (pa_cons pe_int (pa_cons (pe_op op_sub (pv 1) pe_int) pa_nil)))))))) (fun _ _ _ _ _ => (pv 2))) (pe_lst pa_nil) (nomark _)) (pe_one (pe_cmpR op_lt (pe_ix (kix_seq K rfl) (pv 0) pe_int (fun _ _ => rfl)) (pe_ix (kix_seq K rfl) (pv 0) pe_int (fun _ _ => rfl)) (nomark _))))))), fun ds Pw hl hR => ?_⟩)
  obtain ⟨e, n, rfl, h1, h2, hp⟩ := hR
  refine es_seq <| es_if <| et_or <| et_not <| et_B <| ev_isi kit_tuple <| ev_var rfl ⟨_, rfl, Br.f ?_⟩
  refine et_test <| ev_op <| ev_cb <| ea_cons <| ev_var rfl <| ea_nil <| rc_lenT <| ev_int <| rd_ne okI okI ⟨false, rfl, Br.f <| es_next ?_⟩
  refine es_ret <| ev_andV <| ev_op <| ev_lcP (α := Int) (js := [2]) (by decide) <| ei_tup <| ev_var rfl ⟨_, rfl, [(e.1 : Int), e.2], PyData.int, fun _ => false, fun _ => .none, trivial, rfl, by simp, ?_, ?_⟩
  · intro x hx
    refine g_name <| et_not <| et_B <| ev_call <| ea_cons <| ev_var rfl <| ea_cons <| ev_int <| ea_cons <| ev_op <| ev_var rfl <| ev_int <| rd_i <| ea_nil ⟨rfl, _, _, _, rfl, ?_⟩
    have hx' : isInB (.int x) 0 ((n : Int) - 1) = true := by
      rcases List.mem_cons.mp hx with rfl | hx
      · exact isIn_int ⟨by omega, by omega⟩
      · rw [List.mem_singleton.mp hx]; exact isIn_int ⟨by omega, by omega⟩
    rw [hx']
    exact ⟨true, rfl, rfl, Br.f rfl⟩
  · refine ev_lst <| ea_nil ⟨by decide, ?_⟩
    refine rd_eq (okM fun _ => Sh.non) okNil ⟨true, ?_, Br.t ?_⟩
    · rw [List.filter_cons_of_neg (by decide), List.filter_cons_of_neg (by decide)]
      rfl
    · refine ev_op <| ev_op <| ev_var rfl <| ev_int <| rd_ixT rfl <| ev_op <| ev_var rfl <| ev_int <| rd_ixT rfl <| rd_b ?_
      rw [decide_eq_true (by omega)]
      exact hp

theorem leE_false {a b : Nat × Nat} (h : eLt b a) : (if (a.1 : Int) = b.1 then decide ((a.2 : Int) ≤ b.2) else decide ((a.1 : Int) ≤ b.1)) = false := by
  rcases h with h | ⟨h1, h2⟩
  · rw [if_neg (by omega), decide_eq_false (by omega)]
  · rw [if_pos (by omega), decide_eq_false (by omega)]
def R_need_web : List PyData → (PyData → Prop) → Prop := fun ds Pw => ∃ (n : Nat) (E : Edges), ds = [webD n E] ∧ Web n E ∧ Pw .none
theorem w_need_web (B : Bi mg) (D : DefG K mg "need_web" s_need_web) (C_is_edge : Cal P w K mg base 2 "is_edge" ["value", "many"] (spP K 2 R_is_edge)) (C_is_in : Cal P w K mg base 1 "is_in" ["value", "least", "most"] (spP K 3 R_is_in)) : Cal P w K mg base 3 "need_web" ["web"] (spP K 1 R_need_web) := by
  refine mk_cal (k := 2) (N := ["web", "index", "one"]) R_need_web D sc_need_web (fun _ _ _ _ _ _ us hl => match us, hl with | [_], _ => rfl) (fun f cdv A outer s H E hr => ⟨_, (pss_cons (ps_if (PW.pt (pw_or (pt_not (pt_val (pe_callB (kcall_isi K rfl) (by rfl) B.isinstance (by decide +kernel) (pa_cons (pv 0) (pa_cons (pe_bltn (v := .ty "tuple") (by rfl) B.tuple (by decide +kernel) rfl) pa_nil))))) (pw_or (pt_cmpR (kop_neD K rfl hr.units) (pe_callB (kcall_len K rfl) (by rfl) B.len (by decide +kernel) (pa_cons (pv 0) pa_nil)) pe_int (nomark _)) (pw_or1 (pt_not (pt_val (pe_callB (kcall_isi K rfl) (by rfl) B.isinstance (by decide +kernel) (pa_cons (pe_ix (kix_seq K rfl) (pv 0) pe_int (fun _ _ => rfl)) (pa_cons (pe_bltn (v := .ty "tuple") (by rfl) B.tuple (by decide +kernel) rfl) pa_nil))))))))) pss_never pss_nil)
      (pss_cons (ps_if (pt_not (pt_val (pe_cal (C_is_in.mono (by decide)) hr (by rfl) (pa_cons (pe_ix (kix_seq K rfl) (pv 0) pe_int (fun _ _ => rfl)) (pa_cons pe_int (pa_cons (pe_glob (v := .int 9) (by rfl) (B.MOST_PLACES).choose_spec ⟨_, rfl⟩) pa_nil)))))) pss_never pss_nil)
      (pss_one (ps_for PassesOwn.never rfl (pi_enumT (by rfl) B.enumerate (pa_cons (pe_ix (kix_seq K rfl) (pv 0) pe_int (fun _ _ => rfl)) pa_nil)) (kpg_tup K rfl (n := 2) rfl (pgs_cons (pg_name (i := 1) sc_need_web.nd rfl (by first | exact .inl rfl | exact .inr rfl)) (pgs_cons (pg_name (i := 2) sc_need_web.nd rfl (by first | exact .inl rfl | exact .inr rfl)) pgs_nil))) (pss_one (ps_if (PW.pt (pw_or (pt_not (pt_val (pe_cal (C_is_edge.mono (by decide)) hr (by rfl) (pa_cons (pv 2) (pa_cons (pe_ix (kix_seq K rfl) (pv 0) pe_int (fun _ _ => rfl)) pa_nil))))) (pw_or1 (PW.pt (pw_and (pt_cmpR op_gt (pv 1) pe_int (nomark _)) (pw_and1 (pt_cmpR (kop_leT K rfl hr.units0) (pv 2) (pe_ix (kix_seq K rfl) (pe_ix (kix_seq K rfl) (pv 0) pe_int (fun _ _ => rfl)) (pe_op op_sub (pv 1) pe_int) (fun _ _ => rfl)) (nomark _)))))))) pss_never pss_nil)))))), fun ds Pw hl hR => ?_⟩)
  obtain ⟨n, E, rfl, W, hp⟩ := hR
  refine es_seq <| es_if <| et_or <| et_not <| et_B <| ev_isi kit_tuple <| ev_var rfl ⟨_, rfl, Br.f ?_⟩
  refine et_or <| et_test <| ev_op <| ev_cb <| ea_cons <| ev_var rfl <| ea_nil <| rc_lenT <| ev_int <| rd_ne okI okI ⟨false, rfl, Br.f ?_⟩
  refine et_not <| et_B <| ev_isi kit_tuple <| ev_op <| ev_var rfl <| ev_int <| rd_ixT rfl ⟨_, rfl, Br.f <| es_next ?_⟩
  refine es_seq <| es_if <| et_not <| et_B <| ev_call <| ea_cons <| ev_op <| ev_var rfl <| ev_int <| rd_ixT rfl <| ea_cons <| ev_int <| ea_cons <| ev_int <| ea_nil ⟨rfl, _, _, _, rfl, ?_⟩
  have n1 := W.n1
  have n4 := W.n4
  rw [isIn_int ⟨by omega, by omega⟩]
  refine ⟨_, rfl, Br.f <| es_next ?_⟩
  refine es_for (js := [1, 2]) <| ei_enum <| ea_cons <| ev_op <| ev_var rfl <| ev_int <| rd_ixT rfl <| ea_nil ⟨_, rfl, fun i ρ' => ∃ x y, ρ' = [.da (webD n E), x, y], fun _ _ _ => trivial, ⟨_, _, rfl⟩, ?_, fun _ _ => hp⟩
  rintro i d ρ' hd ⟨x, y, rfl⟩
  rw [enumD_get, List.getElem?_map] at hd
  cases he : E[i]? with
  | none => rw [he] at hd; cases hd
  | some e =>
    rw [he] at hd
    cases hd
    have hm := List.mem_of_getElem? he
    refine g_tup2 <| g_name <| g_name ?_
    refine es_if <| et_or <| et_not <| et_B <| ev_call <| ea_cons <| ev_var rfl <| ea_cons <| ev_op <| ev_var rfl <| ev_int <| rd_ixT rfl <| ea_nil ⟨rfl, e, n, rfl, (W.ok e hm).1, (W.ok e hm).2, _, rfl, Br.f ?_⟩
    refine et_and <| et_test <| ev_op <| ev_var rfl <| ev_int <| rd_b ⟨_, rfl, Br.dec (fun h => ?_) (fun h => Br.f <| es_next ⟨_, _, rfl⟩)⟩
    have hi : 0 < i := by omega
    have hl : i - 1 < E.length := by
      have := (List.getElem?_eq_some_iff.mp he).1
      omega
    have ei : (i : Int) - 1 = ((i - 1 : Nat) : Int) := by omega
    refine et_test <| ev_op <| ev_var rfl <| ev_op <| ev_op <| ev_var rfl <| ev_int <| rd_ixT rfl <| ev_op <| ev_var rfl <| ev_int <| rd_i <| rd_ixT (d := eN E[i - 1]) (by rw [ei]; exact atM (List.getElem?_eq_getElem hl)) <| rd_leE ⟨_, rfl, ?_⟩
    have lt : eLt E[i - 1] e := by
      have := List.pairwise_iff_getElem.mp W.srt (i - 1) i hl (List.getElem?_eq_some_iff.mp he).1 (by omega)
      rw [(List.getElem?_eq_some_iff.mp he).2] at this
      exact this
    rw [leE_false lt]
    exact Br.f <| es_next ⟨_, _, rfl⟩
def R_need_roof : List PyData → (PyData → Prop) → Prop := fun ds Pw => ∃ r : Nat, ds = [.int r] ∧ 1 ≤ r ∧ r ≤ 9 ∧ Pw .none
theorem w_need_roof (B : Bi mg) (D : DefG K mg "need_roof" s_need_roof) (C_is_in : Cal P w K mg base 1 "is_in" ["value", "least", "most"] (spP K 3 R_is_in)) : Cal P w K mg base 2 "need_roof" ["roof"] (spP K 1 R_need_roof) := by
  refine mk_cal (k := 1) (N := ["roof"]) R_need_roof D sc_need_roof (fun _ _ _ _ _ _ us hl => match us, hl with | [_], _ => rfl) (fun f cdv A outer s H E hr => ⟨_, (pss_one (ps_if (pt_not (pt_val (pe_cal (C_is_in.mono (by decide)) hr (by rfl) (pa_cons (pv 0) (pa_cons pe_int (pa_cons (pe_glob (v := .int 9) (by rfl) (B.MOST_ROOF).choose_spec ⟨_, rfl⟩) pa_nil)))))) pss_never pss_nil)), fun ds Pw hl hR => ?_⟩)
  obtain ⟨r, rfl, h1, h2, hp⟩ := hR
  refine es_if <| et_not <| et_B <| ev_call <| ea_cons <| ev_var rfl <| ea_cons <| ev_int <| ea_cons <| ev_int <| ea_nil ⟨rfl, _, _, _, rfl, ?_⟩
  rw [isIn_int ⟨by omega, by omega⟩]
  exact ⟨_, rfl, Br.f <| es_next hp⟩
def R_need_table : List PyData → (PyData → Prop) → Prop := fun ds Pw => ∃ (n : Nat) (E : Edges) (r : Nat), ds = [webD n E, .int r] ∧ Web n E ∧ 1 ≤ r ∧ r ≤ 9 ∧ Pw .none
theorem w_need_table (B : Bi mg) (D : DefG K mg "need_table" s_need_table) (C_need_roof : Cal P w K mg base 2 "need_roof" ["roof"] (spP K 1 R_need_roof)) (C_need_web : Cal P w K mg base 3 "need_web" ["web"] (spP K 1 R_need_web)) : Cal P w K mg base 4 "need_table" ["web", "roof"] (spP K 2 R_need_table) := by
  refine mk_cal (k := 3) (N := ["web", "roof"]) R_need_table D sc_need_table (fun _ _ _ _ _ _ us hl => match us, hl with | [_, _], _ => rfl) (fun f cdv A outer s H E hr => ⟨_, (pss_cons (ps_expr (pe_cal (C_need_web.mono (by decide)) hr (by rfl) (pa_cons (pv 0) pa_nil)))
      (pss_one (ps_expr (pe_cal (C_need_roof.mono (by decide)) hr (by rfl) (pa_cons (pv 1) pa_nil))))), fun ds Pw hl hR => ?_⟩)
  obtain ⟨n, E, r, rfl, W, h1, h2, hp⟩ := hR
  refine es_seq <| es_drop <| ev_call <| ea_cons <| ev_var rfl <| ea_nil ⟨rfl, n, E, rfl, W, ?_⟩
  exact es_drop <| ev_call <| ea_cons <| ev_var rfl <| ea_nil ⟨rfl, r, rfl, h1, h2, hp⟩
def R_need_heights : List PyData → (PyData → Prop) → Prop := fun ds Pw => ∃ (n r : Nat) (h : List Int), ds = [.int n, .int r, encI h] ∧ IsH n r h ∧ Pw .none
theorem w_need_heights (B : Bi mg) (D : DefG K mg "need_heights" s_need_heights) (C_is_in : Cal P w K mg base 1 "is_in" ["value", "least", "most"] (spP K 3 R_is_in)) : Cal P w K mg base 2 "need_heights" ["many", "roof", "heights"] (spP K 3 R_need_heights) := by
  refine mk_cal (k := 1) (N := ["many", "roof", "heights", "index", "one"]) R_need_heights D sc_need_heights (fun _ _ _ _ _ _ us hl => match us, hl with | [_, _, _], _ => rfl) (fun f cdv A outer s H E hr => ⟨_, (pss_cons (ps_if (PW.pt (pw_or (pt_not (pt_val (pe_callB (kcall_isi K rfl) (by rfl) B.isinstance (by decide +kernel) (pa_cons (pv 2) (pa_cons (pe_bltn (v := .ty "tuple") (by rfl) B.tuple (by decide +kernel) rfl) pa_nil))))) (pw_or1 (pt_cmpR (kop_neD K rfl hr.units) (pe_callB (kcall_len K rfl) (by rfl) B.len (by decide +kernel) (pa_cons (pv 2) pa_nil)) (pv 0) (nomark _))))) pss_never pss_nil)
      (pss_one (ps_for PassesOwn.never rfl (pi_enumT (by rfl) B.enumerate (pa_cons (pv 2) pa_nil)) (kpg_tup K rfl (n := 2) rfl (pgs_cons (pg_name (i := 3) sc_need_heights.nd rfl (by first | exact .inl rfl | exact .inr rfl)) (pgs_cons (pg_name (i := 4) sc_need_heights.nd rfl (by first | exact .inl rfl | exact .inr rfl)) pgs_nil))) (pss_one (ps_if (pt_not (pt_val (pe_cal (C_is_in.mono (by decide)) hr (by rfl) (pa_cons (pv 4) (pa_cons pe_int (pa_cons (pv 1) pa_nil)))))) pss_never pss_nil))))), fun ds Pw hl hR => ?_⟩)
  obtain ⟨n, r, h, rfl, W, hp⟩ := hR
  refine es_seq <| es_if <| et_or <| et_not <| et_B <| ev_isi kit_tuple <| ev_var rfl ⟨_, rfl, Br.f ?_⟩
  refine et_test <| ev_op <| ev_cb <| ea_cons <| ev_var rfl <| ea_nil <| rc_lenT <| ev_var rfl <| rd_ne okI okI ⟨_, rfl, ?_⟩
  rw [eqv_int, List.length_map, W.len, decide_eq_true rfl]
  refine Br.f <| es_next ?_
  refine es_for (js := [3, 4]) <| ei_enum <| ea_cons <| ev_var rfl <| ea_nil ⟨_, rfl, fun i ρ' => ∃ x y, ρ' = [.da (.int n), .da (.int r), .da (encI h), x, y], fun _ _ _ => trivial, ⟨_, _, rfl⟩, ?_, fun _ _ => hp⟩
  rintro i d ρ' hd ⟨x, y, rfl⟩
  rw [enumD_get, List.getElem?_map] at hd
  cases he : h[i]? with
  | none => rw [he] at hd; cases hd
  | some v =>
    rw [he] at hd
    cases hd
    have hi := (List.getElem?_eq_some_iff.mp he).1
    have hv : v = at0 h i := by rw [at0_get hi] at he; cases he; rfl
    refine g_tup2 <| g_name <| g_name ?_
    refine es_if <| et_not <| et_B <| ev_call <| ea_cons <| ev_var rfl <| ea_cons <| ev_int <| ea_cons <| ev_var rfl <| ea_nil ⟨rfl, _, _, _, rfl, ?_⟩
    rw [isIn_int ⟨by rw [hv]; exact W.lo i (by rw [← W.len]; exact hi), by rw [hv]; exact W.hi i (by rw [← W.len]; exact hi)⟩]
    exact ⟨_, rfl, Br.f <| es_next ⟨_, _, rfl⟩⟩
structure Tab (n r : Nat) (E : Edges) : Prop where
  web : Web n E
  r1 : 1 ≤ r
  r9 : r ≤ 9
def R_need_one : List PyData → (PyData → Prop) → Prop := fun ds Pw => ∃ (n : Nat) (E : Edges) (r : Nat) (h : List Int), ds = [webD n E, .int r, encI h] ∧ Tab n r E ∧ IsH n r h ∧ Pw .none
theorem w_need_one (B : Bi mg) (D : DefG K mg "need_one" s_need_one) (C_need_heights : Cal P w K mg base 2 "need_heights" ["many", "roof", "heights"] (spP K 3 R_need_heights)) (C_need_table : Cal P w K mg base 4 "need_table" ["web", "roof"] (spP K 2 R_need_table)) : Cal P w K mg base 5 "need_one" ["web", "roof", "heights"] (spP K 3 R_need_one) := by
  refine mk_cal (k := 4) (N := ["web", "roof", "heights"]) R_need_one D sc_need_one (fun _ _ _ _ _ _ us hl => match us, hl with | [_, _, _], _ => rfl) (fun f cdv A outer s H E hr => ⟨_, (pss_cons (ps_expr (pe_cal (C_need_table.mono (by decide)) hr (by rfl) (pa_cons (pv 0) (pa_cons (pv 1) pa_nil))))
      (pss_one (ps_expr (pe_cal (C_need_heights.mono (by decide)) hr (by rfl) (pa_cons (pe_ix (kix_seq K rfl) (pv 0) pe_int (fun _ _ => rfl)) (pa_cons (pv 1) (pa_cons (pv 2) pa_nil))))))), fun ds Pw hl hR => ?_⟩)
  obtain ⟨n, E, r, h, rfl, W, I, hp⟩ := hR
  refine es_seq <| es_drop <| ev_call <| ea_cons <| ev_var rfl <| ea_cons <| ev_var rfl <| ea_nil ⟨rfl, n, E, r, rfl, W.web, W.r1, W.r9, ?_⟩
  exact es_drop <| ev_call <| ea_cons <| ev_op <| ev_var rfl <| ev_int <| rd_ixT rfl <| ea_cons <| ev_var rfl <| ea_cons <| ev_var rfl <| ea_nil ⟨rfl, n, r, h, rfl, I, hp⟩
def R_need_two : List PyData → (PyData → Prop) → Prop := fun ds Pw => ∃ (n : Nat) (E : Edges) (r : Nat) (h h' : List Int), ds = [webD n E, .int r, encI h, encI h'] ∧ Tab n r E ∧ IsH n r h ∧ IsH n r h' ∧ Pw .none
theorem w_need_two (B : Bi mg) (D : DefG K mg "need_two" s_need_two) (C_need_heights : Cal P w K mg base 2 "need_heights" ["many", "roof", "heights"] (spP K 3 R_need_heights)) (C_need_one : Cal P w K mg base 5 "need_one" ["web", "roof", "heights"] (spP K 3 R_need_one)) : Cal P w K mg base 6 "need_two" ["web", "roof", "one", "other"] (spP K 4 R_need_two) := by
  refine mk_cal (k := 5) (N := ["web", "roof", "one", "other"]) R_need_two D sc_need_two (fun _ _ _ _ _ _ us hl => match us, hl with | [_, _, _, _], _ => rfl) (fun f cdv A outer s H E hr => ⟨_, (pss_cons (ps_expr (pe_cal (C_need_one.mono (by decide)) hr (by rfl) (pa_cons (pv 0) (pa_cons (pv 1) (pa_cons (pv 2) pa_nil)))))
      (pss_one (ps_expr (pe_cal (C_need_heights.mono (by decide)) hr (by rfl) (pa_cons (pe_ix (kix_seq K rfl) (pv 0) pe_int (fun _ _ => rfl)) (pa_cons (pv 1) (pa_cons (pv 3) pa_nil))))))), fun ds Pw hl hR => ?_⟩)
  obtain ⟨n, E, r, h, h', rfl, W, I, I', hp⟩ := hR
  refine es_seq <| es_drop <| ev_call <| ea_cons <| ev_var rfl <| ea_cons <| ev_var rfl <| ea_cons <| ev_var rfl <| ea_nil ⟨rfl, n, E, r, h, rfl, W, I, ?_⟩
  exact es_drop <| ev_call <| ea_cons <| ev_op <| ev_var rfl <| ev_int <| rd_ixT rfl <| ea_cons <| ev_var rfl <| ea_cons <| ev_var rfl <| ea_nil ⟨rfl, n, r, h', rfl, I', hp⟩
def R_need_prices : List PyData → (PyData → Prop) → Prop := fun ds Pw => ∃ (n : Nat) (E : Edges) (p : List (Int × Int)), ds = [webD n E, .tuple (p.map encE)] ∧ IsP n p ∧ Pw .none
theorem w_need_prices (B : Bi mg) (D : DefG K mg "need_prices" s_need_prices) (C_is_in : Cal P w K mg base 1 "is_in" ["value", "least", "most"] (spP K 3 R_is_in)) : Cal P w K mg base 2 "need_prices" ["web", "prices"] (spP K 2 R_need_prices) := by
  refine mk_cal (k := 1) (N := ["web", "prices", "one", "price"]) R_need_prices D sc_need_prices (fun _ _ _ _ _ _ us hl => match us, hl with | [_, _], _ => rfl) (fun f cdv A outer s H E hr => ⟨_, (pss_cons (ps_if (PW.pt (pw_or (pt_not (pt_val (pe_callB (kcall_isi K rfl) (by rfl) B.isinstance (by decide +kernel) (pa_cons (pv 1) (pa_cons (pe_bltn (v := .ty "tuple") (by rfl) B.tuple (by decide +kernel) rfl) pa_nil))))) (pw_or1 (pt_cmpR (kop_neD K rfl hr.units) (pe_callB (kcall_len K rfl) (by rfl) B.len (by decide +kernel) (pa_cons (pv 1) pa_nil)) (pe_ix (kix_seq K rfl) (pv 0) pe_int (fun _ _ => rfl)) (nomark _))))) pss_never pss_nil)
      (pss_one (ps_for PassesOwn.never rfl (kpi_tup K rfl (pv 1)) (pg_name (i := 2) sc_need_prices.nd rfl (by first | exact .inl rfl | exact .inr rfl)) (pss_cons (ps_if (PW.pt (pw_or (pt_not (pt_val (pe_callB (kcall_isi K rfl) (by rfl) B.isinstance (by decide +kernel) (pa_cons (pv 2) (pa_cons (pe_bltn (v := .ty "tuple") (by rfl) B.tuple (by decide +kernel) rfl) pa_nil))))) (pw_or1 (pt_cmpR (kop_neD K rfl hr.units) (pe_callB (kcall_len K rfl) (by rfl) B.len (by decide +kernel) (pa_cons (pv 2) pa_nil)) pe_int (nomark _))))) pss_never pss_nil)
      (pss_one (ps_if (pt_cmpR (kop_neD K rfl hr.units) (pe_lc (own := [("price", 3)]) rfl sc_need_prices.nd (kpi_tup K rfl (pv 2)) (blkOk_by (N := ["web", "prices", "one", "price"]) (sc := defScope s_need_prices) (by decide +kernel)) (fun _ _ _ _ _ => (pg_name (i := 3) sc_need_prices.nd rfl (by first | exact .inl rfl | exact .inr rfl))) (fun _ _ _ _ _ => (pts_one (pt_not (pt_val (pe_cal (C_is_in.mono (by decide)) hr (by rfl) (pa_cons (pv 3) (pa_cons pe_int (pa_cons (pe_glob (v := .int 1000) (by rfl) (B.MOST_PRICE).choose_spec ⟨_, rfl⟩) pa_nil)))))))) (fun _ _ _ _ _ => (pv 3))) (pe_lst pa_nil) (nomark _)) pss_never pss_nil)))))), fun ds Pw hl hR => ?_⟩)
  obtain ⟨n, E, p, rfl, I, hp⟩ := hR
  refine es_seq <| es_if <| et_or <| et_not <| et_B <| ev_isi kit_tuple <| ev_var rfl ⟨_, rfl, Br.f ?_⟩
  refine et_test <| ev_op <| ev_cb <| ea_cons <| ev_var rfl <| ea_nil <| rc_lenT <| ev_op <| ev_var rfl <| ev_int <| rd_ixT rfl <| rd_ne okI okI ⟨_, rfl, ?_⟩
  rw [eqv_int, List.length_map, I.len, decide_eq_true rfl]
  refine Br.f <| es_next ?_
  refine es_for (js := [2]) <| ei_tup <| ev_var rfl ⟨_, rfl, fun i ρ' => ∃ x y, ρ' = [.da (webD n E), .da (.tuple (p.map encE)), x, y], fun _ _ _ => trivial, ⟨_, _, rfl⟩, ?_, fun _ _ => hp⟩
  rintro i d ρ' hd ⟨x, y, rfl⟩
  rw [List.getElem?_map] at hd
  cases he : p[i]? with
  | none => rw [he] at hd; cases hd
  | some e =>
    rw [he] at hd
    cases hd
    have hi := (List.getElem?_eq_some_iff.mp he).1
    have hv : e = pr p i := by rw [pr_get hi] at he; cases he; rfl
    have hn : i < n := by rw [← I.len]; exact hi
    refine g_name ?_
    refine es_seq <| es_if <| et_or <| et_not <| et_B <| ev_isi kit_tuple <| ev_var rfl ⟨_, rfl, Br.f ?_⟩
    refine et_test <| ev_op <| ev_cb <| ea_cons <| ev_var rfl <| ea_nil <| rc_lenT <| ev_int <| rd_ne okI okI ⟨false, rfl, Br.f <| es_next ?_⟩
    refine es_if <| et_test <| ev_op <| ev_lcP (α := Int) (js := [3]) (by decide) <| ei_tup <| ev_var rfl ⟨_, rfl, [e.1, e.2], PyData.int, fun _ => false, fun _ => .none, trivial, rfl, by simp, ?_, ?_⟩
    · intro x hx
      refine g_name <| et_not <| et_B <| ev_call <| ea_cons <| ev_var rfl <| ea_cons <| ev_int <| ea_cons <| ev_int <| ea_nil ⟨rfl, _, _, _, rfl, ?_⟩
      have hx' : isInB (.int x) 0 1000 = true := by
        have l := I.lo i hn
        have u := I.hi i hn
        rw [← hv] at l u
        rcases List.mem_cons.mp hx with rfl | hx
        · exact isIn_int ⟨by omega, by omega⟩
        · rw [List.mem_singleton.mp hx]; exact isIn_int ⟨by omega, by omega⟩
      rw [hx']
      exact ⟨true, rfl, rfl, Br.f rfl⟩
    · refine ev_lst <| ea_nil ⟨by simp, ?_⟩
      refine rd_ne (okM fun _ => Sh.non) okNil ⟨false, ?_, Br.f <| es_next ⟨_, _, rfl⟩⟩
      rw [List.filter_cons_of_neg (by decide), List.filter_cons_of_neg (by decide)]
      rfl
def R_power : List PyData → (PyData → Prop) → Prop := fun ds Pw => ∃ b t : Nat, ds = [.int b, .int t] ∧ t ≤ 1000 ∧ b ≤ 1000 ∧ Pw (.int ((b ^ t : Nat) : Int))
theorem w_power (B : Bi mg) (D : DefG K mg "power" s_power) : Cal P w K mg base 1 "power" ["base", "times"] (spP K 2 R_power) := by
  refine mk_cal (k := 0) (N := ["base", "times", "found", "k"]) R_power D sc_power (fun _ _ _ _ _ _ us hl => match us, hl with | [_, _], _ => rfl) (fun f cdv A outer s H E hr => ⟨_, (pss_cons (ps_set (i := 2) sc_power.nd rfl (by first | exact .inl rfl | exact .inr rfl) pe_int)
      (pss_cons (ps_for PassesOwn.never rfl (pi_range1 (by rfl) B.range (pa_cons (pv 1) pa_nil)) (pg_name (i := 3) sc_power.nd rfl (by first | exact .inl rfl | exact .inr rfl)) (pss_one (ps_aug (i := 2) sc_power.nd rfl (by first | exact .inl rfl | exact .inr rfl) (pv 0) iop_mul)))
      (pss_one (ps_ret (pv 2))))), fun ds Pw hl hR => ?_⟩)
  obtain ⟨b, t, rfl, h1, h2, hp⟩ := hR
  refine es_seq <| es_set <| ev_int ?_
  refine es_seq <| es_for (js := [3]) <| ei_r1 <| ea_cons <| ev_var rfl <| ea_nil ⟨_, rfl, by omega, by omega, fun i ρ' => ∃ x, ρ' = [.da (.int b), .da (.int t), .da (.int ((b ^ i : Nat) : Int)), x], fun _ _ _ => trivial, ⟨_, rfl⟩, ?_, ?_⟩
  · rintro i d ρ' hd ⟨x, rfl⟩
    refine g_name <| es_augR (ev_var rfl ⟨_, _, rfl, rfl, .inr ⟨by omega, by omega⟩, .da d, ?_⟩) ⟨_, rfl⟩
    rw [Nat.pow_succ, Int.natCast_mul]
    rfl
  · rintro ρ' ⟨x, rfl⟩
    rw [rngD_len]
    exact es_ret <| ev_var rfl hp
def R_need_listed : List PyData → (PyData → Prop) → Prop := fun ds Pw => ∃ (n : Nat) (E : Edges) (r : Nat), ds = [webD n E, .int r] ∧ n ≤ 9 ∧ r ≤ 9 ∧ (r + 1) ^ n ≤ 3000 ∧ Pw .none
theorem w_need_listed (B : Bi mg) (D : DefG K mg "need_listed" s_need_listed) (C_power : Cal P w K mg base 1 "power" ["base", "times"] (spP K 2 R_power)) : Cal P w K mg base 2 "need_listed" ["web", "roof"] (spP K 2 R_need_listed) := by
  refine mk_cal (k := 1) (N := ["web", "roof"]) R_need_listed D sc_need_listed (fun _ _ _ _ _ _ us hl => match us, hl with | [_, _], _ => rfl) (fun f cdv A outer s H E hr => ⟨_, (pss_one (ps_if (pt_cmpR op_gt (pe_cal (C_power.mono (by decide)) hr (by rfl) (pa_cons (pe_op op_add (pv 1) pe_int) (pa_cons (pe_ix (kix_seq K rfl) (pv 0) pe_int (fun _ _ => rfl)) pa_nil))) (pe_glob (v := .int 3000) (by rfl) (B.MOST_LISTED).choose_spec ⟨_, rfl⟩) (nomark _)) pss_never pss_nil)), fun ds Pw hl hR => ?_⟩)
  obtain ⟨n, E, r, rfl, h1, h2, h3, hp⟩ := hR
  refine es_if <| et_test <| ev_op <| ev_call <| ea_cons <| ev_op <| ev_var rfl <| ev_int <| rd_i <| ea_cons <| ev_op <| ev_var rfl <| ev_int <| rd_ixT rfl <| ea_nil ⟨rfl, r + 1, n, rfl, by omega, by omega, ?_⟩
  refine ev_int <| rd_b ⟨_, rfl, ?_⟩
  rw [decide_eq_false (by omega)]
  exact Br.f <| es_next hp
end
end Lv
/-! Ld2: deeds, words, steep edges, reach, costs of the program. -/
namespace Lv
open PySem PySem.Spec PyProof.Rows L2 Lw
def besideL (E : Edges) (p : Nat) : List Nat := (E.filter fun e => decide (e.2 = p)).map (·.1) ++ (E.filter fun e => decide (e.1 = p)).map (·.2)
theorem mem_beside {E : Edges} {p j : Nat} : j ∈ besideL E p ↔ Adj E j p := by
  unfold besideL Adj
  rw [List.mem_append, List.mem_map, List.mem_map]
  constructor
  · rintro (⟨⟨a, b⟩, h, rfl⟩ | ⟨⟨a, b⟩, h, rfl⟩)
    · obtain ⟨h1, h2⟩ := List.mem_filter.mp h
      have : b = p := of_decide_eq_true h2
      subst this
      exact .inl h1
    · obtain ⟨h1, h2⟩ := List.mem_filter.mp h
      have : a = p := of_decide_eq_true h2
      subst this
      exact .inr h1
  · rintro (h | h)
    · exact .inl ⟨(j, p), List.mem_filter.mpr ⟨h, decide_eq_true rfl⟩, rfl⟩
    · exact .inr ⟨(p, j), List.mem_filter.mpr ⟨h, decide_eq_true rfl⟩, rfl⟩
theorem adj_lt {n : Nat} {E : Edges} (W : Web n E) {j p : Nat} (h : Adj E j p) : j < n := by
  rcases h with h | h
  · have := W.ok _ h; omega
  · have := W.ok _ h; omega
theorem low_iff {n : Nat} {E : Edges} (W : Web n E) (h : List Int) (p : Nat) : ((besideL E p).filter fun j => decide (at0 h j < at0 h p)).isEmpty = (List.range n).all fun j => !decide (Adj E j p) || decide (at0 h p ≤ at0 h j) := by
  rw [Bool.eq_iff_iff, List.isEmpty_iff, List.filter_eq_nil_iff, List.all_eq_true]
  constructor
  · intro H j hj
    by_cases ha : Adj E j p
    · have := H j (mem_beside.mpr ha)
      simp at this
      simp [this]
    · simp [ha]
  · intro H j hj
    have ha := mem_beside.mp hj
    have := H j (List.mem_range.mpr (adj_lt W ha))
    simp [ha] at this
    simp
    omega
theorem high_iff {n : Nat} {E : Edges} (W : Web n E) (h : List Int) (p : Nat) : ((besideL E p).filter fun j => decide (at0 h p < at0 h j)).isEmpty = (List.range n).all fun j => !decide (Adj E j p) || decide (at0 h j ≤ at0 h p) := by
  rw [Bool.eq_iff_iff, List.isEmpty_iff, List.filter_eq_nil_iff, List.all_eq_true]
  constructor
  · intro H j hj
    by_cases ha : Adj E j p
    · have := H j (mem_beside.mpr ha)
      simp at this
      simp [this]
    · simp [ha]
  · intro H j hj
    have ha := mem_beside.mp hj
    have := H j (List.mem_range.mpr (adj_lt W ha))
    simp [ha] at this
    simp
    omega
section
variable {P : Program} {w : World} {K : PySem.W.Frag} {mg : Str → Option Value} {base : Heap}
abbrev iN (k : Nat) : PyData := .int (k : Int)
def R_beside_in : List PyData → (PyData → Prop) → Prop := fun ds Pw => ∃ (n : Nat) (E : Edges) (p : Nat), ds = [webD n E, .int p] ∧ E.length ≤ 64 ∧ Pw (.list ((besideL E p).map iN))
theorem w_beside_in (B : Bi mg) (D : DefG K mg "beside_in" s_beside_in) : Cal P w K mg base 1 "beside_in" ["web", "place"] (spP K 2 R_beside_in) := by
  refine mk_cal (k := 0) (N := ["web", "place", "one", "other"]) R_beside_in D sc_beside_in (fun _ _ _ _ _ _ us hl => match us, hl with | [_, _], _ => rfl) (fun f cdv A outer s H E hr => ⟨_, (pss_one (ps_ret (pe_op op_cat (pe_lc (own := [("one", 2), ("other", 3)]) rfl sc_beside_in.nd (kpi_tup K rfl (pe_ix (kix_seq K rfl) (pv 0) pe_int (fun _ _ => rfl))) (blkOk_by (N := ["web", "place", "one", "other"]) (sc := defScope s_beside_in) (by decide +kernel)) (fun _ _ _ _ _ => (kpg_tup K rfl (n := 2) rfl (pgs_cons (pg_name (i := 2) sc_beside_in.nd rfl (by first | exact .inl rfl | exact .inr rfl)) (pgs_cons (pg_name (i := 3) sc_beside_in.nd rfl (by first | exact .inl rfl | exact .inr rfl)) pgs_nil)))) (fun _ _ _ _ _ => (pts_one (pt_cmpR (kop_eqD K rfl hr.units) (pv 3) (pv 1) (nomark _)))) (fun _ _ _ _ _ => (pv 2))) (pe_lc (own := [("one", 2), ("other", 3)]) rfl sc_beside_in.nd (kpi_tup K rfl (pe_ix (kix_seq K rfl) (pv 0) pe_int (fun _ _ => rfl))) (blkOk_by (N := ["web", "place", "one", "other"]) (sc := defScope s_beside_in) (by decide +kernel)) (fun _ _ _ _ _ => (kpg_tup K rfl (n := 2) rfl (pgs_cons (pg_name (i := 2) sc_beside_in.nd rfl (by first | exact .inl rfl | exact .inr rfl)) (pgs_cons (pg_name (i := 3) sc_beside_in.nd rfl (by first | exact .inl rfl | exact .inr rfl)) pgs_nil)))) (fun _ _ _ _ _ => (pts_one (pt_cmpR (kop_eqD K rfl hr.units) (pv 2) (pv 1) (nomark _)))) (fun _ _ _ _ _ => (pv 3)))))), fun ds Pw hl hR => ?_⟩)
  obtain ⟨n, E, p, rfl, W, hp⟩ := hR
  refine es_ret <| ev_op <| ev_lcP (α := Nat × Nat) (js := [2, 3]) (by decide) <| ei_tup <| ev_op <| ev_var rfl <| ev_int <| rd_ixT rfl ⟨_, rfl, E, eN, fun e => decide (e.2 = p), fun e => iN e.1, trivial, rfl, by omega, ?_, ?_⟩
  · intro e he
    refine g_tup2 <| g_name <| g_name <| et_test <| ev_op <| ev_var rfl <| ev_var rfl <| rd_eq okI okI ⟨_, rfl, ?_, fun _ => ev_var rfl ⟨rfl, rfl⟩, fun _ => rfl⟩
    rw [eqv_int]
    exact decide_eq_decide.mpr (by omega)
  · refine ev_lcP (α := Nat × Nat) (js := [2, 3]) (by decide) <| ei_tup <| ev_op <| ev_var rfl <| ev_int <| rd_ixT rfl ⟨_, rfl, E, eN, fun e => decide (e.1 = p), fun e => iN e.2, trivial, rfl, by omega, ?_, ?_⟩
    · intro e he
      refine g_tup2 <| g_name <| g_name <| et_test <| ev_op <| ev_var rfl <| ev_var rfl <| rd_eq okI okI ⟨_, rfl, ?_, fun _ => ev_var rfl ⟨rfl, rfl⟩, fun _ => rfl⟩
      rw [eqv_int]
      exact decide_eq_decide.mpr (by omega)
    · refine rd_cat ?_ ?_
      · have h1 := filter_len (xs := E) (c := fun e => decide (e.2 = p))
        have h2 := filter_len (xs := E) (c := fun e => decide (e.1 = p))
        rw [List.length_map, List.length_map]
        omega
      · have e : (besideL E p).map iN = ((E.filter fun e => decide (e.2 = p)).map fun e => iN e.1) ++ ((E.filter fun e => decide (e.1 = p)).map fun e => iN e.2) := by
          unfold besideL
          rw [List.map_append, List.map_map, List.map_map]
          rfl
        rw [e] at hp
        exact hp
theorem beside_len {E : Edges} {p : Nat} (h : E.length ≤ 64) : (besideL E p).length ≤ 1000 := by
  unfold besideL
  have h1 := filter_len (xs := E) (c := fun e => decide (e.2 = p))
  have h2 := filter_len (xs := E) (c := fun e => decide (e.1 = p))
  rw [List.length_append, List.length_map, List.length_map]
  omega
theorem filter_range_succ {c : Nat → Bool} {i : Nat} : (List.range (i + 1)).filter c = (List.range i).filter c ++ if c i = true then [i] else [] := by
  rw [List.range_succ, List.filter_append]
  congr 1
  rw [List.filter_cons]
  split <;> rfl
def R_raise_in : List PyData → (PyData → Prop) → Prop := fun ds Pw => ∃ (n : Nat) (E : Edges) (r : Nat) (h : List Int), ds = [webD n E, .int r, encI h] ∧ Web n E ∧ h.length = n ∧ Pw (.list (((List.range n).filter (canUp n E r h)).map iN))
theorem w_raise_in (B : Bi mg) (D : DefG K mg "raise_in" s_raise_in) (C_beside_in : Cal P w K mg base 1 "beside_in" ["web", "place"] (spP K 2 R_beside_in)) : Cal P w K mg base 2 "raise_in" ["web", "roof", "heights"] (spP K 3 R_raise_in) := by
  refine mk_cal (k := 1) (N := ["web", "roof", "heights", "found", "place", "lower", "one"]) R_raise_in D sc_raise_in (fun _ _ _ _ _ _ us hl => match us, hl with | [_, _, _], _ => rfl) (fun f cdv A outer s H E hr => ⟨_, (pss_cons (ps_set (i := 3) sc_raise_in.nd rfl (by first | exact .inl rfl | exact .inr rfl) (pe_lst pa_nil))
      (pss_cons (ps_for PassesOwn.never rfl (pi_range1 (by rfl) B.range (pa_cons (pe_ix (kix_seq K rfl) (pv 0) pe_int (fun _ _ => rfl)) pa_nil)) (pg_name (i := 4) sc_raise_in.nd rfl (by first | exact .inl rfl | exact .inr rfl)) (pss_cons (ps_setLc (i := 5) (own := [("one", 6)]) rfl sc_raise_in.nd rfl rfl rfl (kpi_list K rfl (pe_cal (C_beside_in.mono (by decide)) hr (by rfl) (pa_cons (pv 0) (pa_cons (pv 4) pa_nil)))) (blkOk_by (N := ["web", "roof", "heights", "found", "place", "lower", "one"]) (sc := defScope s_raise_in) (by decide +kernel)) (fun _ _ _ _ _ => (pg_name (i := 6) sc_raise_in.nd rfl (by first | exact .inl rfl | exact .inr rfl))) (fun _ _ _ _ _ => (pts_one (pt_cmpR op_lt (pe_ix (kix_seq K rfl) (pv 2) (pv 6) (fun _ _ => rfl)) (pe_ix (kix_seq K rfl) (pv 2) (pv 4) (fun _ _ => rfl)) (nomark _)))) (fun _ _ _ _ _ => (pv 6)))
      (pss_one (ps_if (PW.pt (pw_and (pt_cmpR op_lt (pe_ix (kix_seq K rfl) (pv 2) (pv 4) (fun _ _ => rfl)) (pv 1) (nomark _)) (pw_and1 (pt_cmpR (kop_eqD K rfl hr.units) (pv 5) (pe_lst pa_nil) (nomark _))))) (pss_one (ps_expr (pe_bm PySem.F.plainAttrs_list PySem.F.slot_list_append PySem.F.type_list_append mt_append (pv 3) (pa_cons (pv 4) pa_nil)))) pss_nil))))
      (pss_one (ps_ret (pv 3))))), fun ds Pw hl hR => ?_⟩)
  obtain ⟨n, E, r, h, rfl, W, hn, hp⟩ := hR
  have n4 := W.n4
  refine es_seq <| es_own <| ea_nil ⟨by decide, fun l _ => ?_⟩
  refine es_seq <| es_for (js := [4]) <| ei_r1 <| ea_cons <| ev_op <| ev_var rfl <| ev_int <| rd_ixT rfl <| ea_nil ⟨_, rfl, by omega, by omega, fun i ρ' => ∃ x y z, ρ' = [.da (webD n E), .da (.int r), .da (encI h), .ow l (.ls (((List.range i).filter (canUp n E r h)).map iN)), x, y, z], fun _ _ _ => trivial, ⟨_, _, _, rfl⟩, ?_, ?_⟩
  · rintro i d ρ' hd ⟨x, y, z, rfl⟩
    have hi : i < n := by
      have := (List.getElem?_eq_some_iff.mp hd).1
      rw [rngD_len] at this
      omega
    rw [rngD_get (by omega), Int.zero_add] at hd
    cases hd
    refine g_name <| es_seq <| es_set <| ev_lcP (α := Nat) (js := [6]) (by decide) <| ei_list <| ev_call <| ea_cons <| ev_var rfl <| ea_cons <| ev_var rfl <| ea_nil ⟨rfl, n, E, i, rfl, W.len, _, rfl, besideL E i, iN, fun j => decide (at0 h j < at0 h i), iN, trivial, rfl, by have := beside_len (p := i) W.len; omega, ?_, ?_⟩
    · intro j hj
      have hj : j < n := adj_lt W (mem_beside.mp hj)
      exact g_name <| et_test <| ev_op <| ev_op <| ev_var rfl <| ev_var rfl <| rd_ixT (atH (by omega)) <| ev_op <| ev_var rfl <| ev_var rfl <| rd_ixT (atH (by omega)) <| rd_b ⟨_, rfl, rfl, fun _ => ev_var rfl ⟨rfl, rfl⟩, fun _ => rfl⟩
    · refine es_if <| et_and <| et_test <| ev_op <| ev_op <| ev_var rfl <| ev_var rfl <| rd_ixT (atH (by omega)) <| ev_var rfl <| rd_b ⟨_, rfl, fun e1 => ?_, fun e1 => ?_⟩
      · refine et_test <| ev_op <| ev_var rfl <| ev_lst <| ea_nil ⟨by decide, ?_⟩
        refine rd_eq (okM fun _ => Sh.int) okNil ⟨_, rfl, ?_⟩
        rw [eqv_mapNil, low_iff W]
        have ec : canUp n E r h i = ((List.range n).all fun j => !decide (Adj E j i) || decide (at0 h i ≤ at0 h j)) := by
          unfold canUp
          rw [e1, Bool.true_and]
        rw [← ec]
        refine ⟨fun e2 => ?_, fun e2 => ?_⟩
        · refine es_app ⟨_, rfl⟩ <| ev_var rfl ⟨_, rfl, ?_, ⟨.da (iN i), .da (.list (((besideL E i).filter fun j => decide (at0 h j < at0 h i)).map iN)), .un, ?_⟩⟩
          · rw [List.length_map]
            have := filter_len (xs := List.range i) (c := canUp n E r h)
            rw [List.length_range] at this
            omega
          · rw [filter_range_succ, if_pos e2, List.map_append]
            rfl
        · refine es_next ⟨.da (iN i), .da (.list (((besideL E i).filter fun j => decide (at0 h j < at0 h i)).map iN)), .un, ?_⟩
          rw [filter_range_succ, if_neg (by rw [e2]; exact Bool.false_ne_true), List.append_nil]
          rfl
      · have ec : canUp n E r h i = false := by
          unfold canUp
          rw [e1, Bool.false_and]
        refine Br.f <| es_next ⟨.da (iN i), .da (.list (((besideL E i).filter fun j => decide (at0 h j < at0 h i)).map iN)), .un, ?_⟩
        rw [filter_range_succ, if_neg (by rw [ec]; exact Bool.false_ne_true), List.append_nil]
        rfl
  · rintro ρ' ⟨x, y, z, rfl⟩
    rw [rngD_len, Int.toNat_natCast]
    exact es_ret <| ev_take rfl hp
def R_lower_in : List PyData → (PyData → Prop) → Prop := fun ds Pw => ∃ (n : Nat) (E : Edges) (h : List Int), ds = [webD n E, encI h] ∧ Web n E ∧ h.length = n ∧ Pw (.list (((List.range n).filter (canDn n E h)).map iN))
theorem w_lower_in (B : Bi mg) (D : DefG K mg "lower_in" s_lower_in) (C_beside_in : Cal P w K mg base 1 "beside_in" ["web", "place"] (spP K 2 R_beside_in)) : Cal P w K mg base 2 "lower_in" ["web", "heights"] (spP K 2 R_lower_in) := by
  refine mk_cal (k := 1) (N := ["web", "heights", "found", "place", "higher", "one"]) R_lower_in D sc_lower_in (fun _ _ _ _ _ _ us hl => match us, hl with | [_, _], _ => rfl) (fun f cdv A outer s H E hr => ⟨_, (pss_cons (ps_set (i := 2) sc_lower_in.nd rfl (by first | exact .inl rfl | exact .inr rfl) (pe_lst pa_nil))
      (pss_cons (ps_for PassesOwn.never rfl (pi_range1 (by rfl) B.range (pa_cons (pe_ix (kix_seq K rfl) (pv 0) pe_int (fun _ _ => rfl)) pa_nil)) (pg_name (i := 3) sc_lower_in.nd rfl (by first | exact .inl rfl | exact .inr rfl)) (pss_cons (ps_setLc (i := 4) (own := [("one", 5)]) rfl sc_lower_in.nd rfl rfl rfl (kpi_list K rfl (pe_cal (C_beside_in.mono (by decide)) hr (by rfl) (pa_cons (pv 0) (pa_cons (pv 3) pa_nil)))) (blkOk_by (N := ["web", "heights", "found", "place", "higher", "one"]) (sc := defScope s_lower_in) (by decide +kernel)) (fun _ _ _ _ _ => (pg_name (i := 5) sc_lower_in.nd rfl (by first | exact .inl rfl | exact .inr rfl))) (fun _ _ _ _ _ => (pts_one (pt_cmpR op_gt (pe_ix (kix_seq K rfl) (pv 1) (pv 5) (fun _ _ => rfl)) (pe_ix (kix_seq K rfl) (pv 1) (pv 3) (fun _ _ => rfl)) (nomark _)))) (fun _ _ _ _ _ => (pv 5)))
      (pss_one (ps_if (PW.pt (pw_and (pt_cmpR op_gt (pe_ix (kix_seq K rfl) (pv 1) (pv 3) (fun _ _ => rfl)) pe_int (nomark _)) (pw_and1 (pt_cmpR (kop_eqD K rfl hr.units) (pv 4) (pe_lst pa_nil) (nomark _))))) (pss_one (ps_expr (pe_bm PySem.F.plainAttrs_list PySem.F.slot_list_append PySem.F.type_list_append mt_append (pv 2) (pa_cons (pv 3) pa_nil)))) pss_nil))))
      (pss_one (ps_ret (pv 2))))), fun ds Pw hl hR => ?_⟩)
  obtain ⟨n, E, h, rfl, W, hn, hp⟩ := hR
  have n4 := W.n4
  refine es_seq <| es_own <| ea_nil ⟨by decide, fun l _ => ?_⟩
  refine es_seq <| es_for (js := [3]) <| ei_r1 <| ea_cons <| ev_op <| ev_var rfl <| ev_int <| rd_ixT rfl <| ea_nil ⟨_, rfl, by omega, by omega, fun i ρ' => ∃ x y z, ρ' = [.da (webD n E), .da (encI h), .ow l (.ls (((List.range i).filter (canDn n E h)).map iN)), x, y, z], fun _ _ _ => trivial, ⟨_, _, _, rfl⟩, ?_, ?_⟩
  · rintro i d ρ' hd ⟨x, y, z, rfl⟩
    have hi : i < n := by
      have := (List.getElem?_eq_some_iff.mp hd).1
      rw [rngD_len] at this
      omega
    rw [rngD_get (by omega), Int.zero_add] at hd
    cases hd
    refine g_name <| es_seq <| es_set <| ev_lcP (α := Nat) (js := [5]) (by decide) <| ei_list <| ev_call <| ea_cons <| ev_var rfl <| ea_cons <| ev_var rfl <| ea_nil ⟨rfl, n, E, i, rfl, W.len, _, rfl, besideL E i, iN, fun j => decide (at0 h i < at0 h j), iN, trivial, rfl, by have := beside_len (p := i) W.len; omega, ?_, ?_⟩
    · intro j hj
      have hj : j < n := adj_lt W (mem_beside.mp hj)
      exact g_name <| et_test <| ev_op <| ev_op <| ev_var rfl <| ev_var rfl <| rd_ixT (atH (by omega)) <| ev_op <| ev_var rfl <| ev_var rfl <| rd_ixT (atH (by omega)) <| rd_b ⟨_, rfl, rfl, fun _ => ev_var rfl ⟨rfl, rfl⟩, fun _ => rfl⟩
    · refine es_if <| et_and <| et_test <| ev_op <| ev_op <| ev_var rfl <| ev_var rfl <| rd_ixT (atH (by omega)) <| ev_int <| rd_b ⟨_, rfl, fun e1 => ?_, fun e1 => ?_⟩
      · refine et_test <| ev_op <| ev_var rfl <| ev_lst <| ea_nil ⟨by decide, ?_⟩
        refine rd_eq (okM fun _ => Sh.int) okNil ⟨_, rfl, ?_⟩
        rw [eqv_mapNil, high_iff W]
        have ec : canDn n E h i = ((List.range n).all fun j => !decide (Adj E j i) || decide (at0 h j ≤ at0 h i)) := by
          unfold canDn
          rw [e1, Bool.true_and]
        rw [← ec]
        refine ⟨fun e2 => ?_, fun e2 => ?_⟩
        · refine es_app ⟨_, rfl⟩ <| ev_var rfl ⟨_, rfl, ?_, ⟨.da (iN i), .da (.list (((besideL E i).filter fun j => decide (at0 h i < at0 h j)).map iN)), .un, ?_⟩⟩
          · rw [List.length_map]
            have := filter_len (xs := List.range i) (c := canDn n E h)
            rw [List.length_range] at this
            omega
          · rw [filter_range_succ, if_pos e2, List.map_append]
            rfl
        · refine es_next ⟨.da (iN i), .da (.list (((besideL E i).filter fun j => decide (at0 h i < at0 h j)).map iN)), .un, ?_⟩
          rw [filter_range_succ, if_neg (by rw [e2]; exact Bool.false_ne_true), List.append_nil]
          rfl
      · have ec : canDn n E h i = false := by
          unfold canDn
          rw [e1, Bool.false_and]
        refine Br.f <| es_next ⟨.da (iN i), .da (.list (((besideL E i).filter fun j => decide (at0 h i < at0 h j)).map iN)), .un, ?_⟩
        rw [filter_range_succ, if_neg (by rw [ec]; exact Bool.false_ne_true), List.append_nil]
        rfl
  · rintro ρ' ⟨x, y, z, rfl⟩
    rw [rngD_len, Int.toNat_natCast]
    exact es_ret <| ev_take rfl hp
end
end Lv
/-! Ld3: changed, doable, words, steep edges, reach, costs of the program. -/
namespace Lv
open PySem PySem.Spec PyProof.Rows L2 Lw
theorem cut_take {ds : List PyData} {k : Nat} (h : k ≤ ds.length) : cutD ds none (some (k : Int)) = ds.take k := by
  unfold cutD
  rw [HT.sIx_none, HT.sIx_nat, List.drop_zero, Nat.sub_zero, Nat.min_eq_left h]
theorem cut_drop {ds : List PyData} {k : Nat} (h : k ≤ ds.length) : cutD ds (some (k : Int)) none = ds.drop k := by
  unfold cutD
  rw [HT.sIx_none, HT.sIx_nat, Nat.min_eq_left h]
  refine List.take_of_length_le ?_
  rw [List.length_drop]
  exact Nat.le_refl _
inductive Val where
  | non
  | lst (xs : List ((Bool ⊕ Int) × Int))
  | int (i : Int)
  | dct
  | tup (xs : List ((Bool ⊕ Int) × Int))
def encS : Bool ⊕ Int → PyData
  | .inl b => .bool b
  | .inr i => .int i
def encX (x : (Bool ⊕ Int) × Int) : PyData := .tuple [encS x.1, .int x.2]
def encV : Val → PyData
  | .non => .none
  | .lst xs => .list (xs.map encX)
  | .int i => .int i
  | .dct => .dict []
  | .tup xs => .tuple (xs.map encX)
def isDeedB (n : Nat) (x : (Bool ⊕ Int) × Int) : Bool := x.1.isLeft && (decide (0 ≤ x.2) && decide (x.2 < n))
def isDeedsB (n : Nat) : Val → Bool
  | .tup xs => xs.all (isDeedB n)
  | _ => false
def vLen : Val → Nat
  | .tup xs => xs.length
  | .lst xs => xs.length
  | _ => 0
def lineL (n : Nat) (E : Edges) (r : Nat) : List Int → List Deed → List (List Int)
  | h, [] => [h]
  | h, d :: w => if d ∈ deedsL n E r h then h :: lineL n E r (step h d) w else [h]
theorem isBol_encS (x : Bool ⊕ Int) : isBol (encS x) = x.isLeft := by cases x <;> rfl
theorem mem_deedsL {n : Nat} {E : Edges} {r : Nat} {h : List Int} {d : Deed} (hd : d ∈ deedsL n E r h) : d.2 < n := by
  unfold deedsL at hd
  rcases List.mem_append.mp hd with z | z
  · obtain ⟨k, hk, rfl⟩ := List.mem_map.mp z
    exact List.mem_range.mp (List.mem_filter.mp hk).1
  · obtain ⟨k, hk, rfl⟩ := List.mem_map.mp z
    exact List.mem_range.mp (List.mem_filter.mp hk).1
theorem deedsL_len {n : Nat} {E : Edges} {r : Nat} {h : List Int} : (deedsL n E r h).length ≤ 2 * n := by
  unfold deedsL
  rw [List.length_append, List.length_map, List.length_map]
  have h1 := filter_len (xs := List.range n) (c := canUp n E r h)
  have h2 := filter_len (xs := List.range n) (c := canDn n E h)
  rw [List.length_range] at h1 h2
  omega
theorem step_len (h : List Int) (d : Deed) : (step h d).length = h.length := by unfold step; rw [List.length_set]
section
variable {P : Program} {w : World} {K : PySem.W.Frag} {mg : Str → Option Value} {base : Heap}
def R_changed : List PyData → (PyData → Prop) → Prop := fun ds Pw => ∃ (h : List Int) (d : Deed), ds = [encI h, encD d] ∧ d.2 < h.length ∧ h.length ≤ 1000 ∧ Pw (encI (step h d))
theorem w_changed (B : Bi mg) (D : DefG K mg "changed" s_changed) : Cal P w K mg base 1 "changed" ["heights", "deed"] (spP K 2 R_changed) := by
  refine mk_cal (k := 0) (N := ["heights", "deed", "up", "place"]) R_changed D sc_changed (fun _ _ _ _ _ _ us hl => match us, hl with | [_, _], _ => rfl) (fun f cdv A outer s H E hr => ⟨_, (pss_cons (ps_asg (pv 1) (kpg_tup K rfl (n := 2) rfl (pgs_cons (pg_name (i := 2) sc_changed.nd rfl (by first | exact .inl rfl | exact .inr rfl)) (pgs_cons (pg_name (i := 3) sc_changed.nd rfl (by first | exact .inl rfl | exact .inr rfl)) pgs_nil))))
      (pss_one (ps_ret (pe_op (kop_catA K rfl) (pe_op (kop_catA K rfl) (pe_slice (ksl_tupA K rfl) (pv 0) po_none (po_some (pv 3))) (pe_tup (pa_cons (pe_op op_add (pe_ix (kix_seq K rfl) (pv 0) (pv 3) (fun _ _ => rfl)) (pe_ifExp (pt_val (pv 2)) pe_int (pe_un un_neg pe_int))) pa_nil))) (pe_slice (ksl_tupA K rfl) (pv 0) (po_some (pe_op op_add (pv 3) pe_int)) po_none))))), fun ds Pw hl hR => ?_⟩)
  obtain ⟨h, d, rfl, hd, hz, hp⟩ := hR
  have hd' : d.2 < (h.map PyData.int).length := by rw [List.length_map]; exact hd
  refine es_seq <| es_asg <| ev_var rfl <| g_tup2 <| g_name <| g_name ?_
  refine es_ret <| ev_op <| ev_op <| ev_sl <| ev_var rfl <| eo_no <| eo_part <| ev_var rfl ⟨_, rfl, rs_tup ?_⟩
  refine ev_tup <| ea_cons <| ev_op <| ev_op <| ev_var rfl <| ev_var rfl <| rd_ixT (atH hd) <| ev_if <| et_B <| ev_var rfl ⟨_, rfl, fun e => ?_, fun e => ?_⟩
  · refine ev_int <| rd_i <| ea_nil ⟨by simp, ?_⟩
    rw [cut_take (by omega)]
    refine rd_catT (by simp; omega) <| ev_sl <| ev_var rfl <| eo_part (ev_op <| ev_var rfl <| ev_int <| rd_i ⟨_, rfl, eo_no <| rs_tup ?_⟩)
    rw [show (d.2 : Int) + 1 = ((d.2 + 1 : Nat) : Int) by omega, cut_drop (by omega)]
    refine rd_catT (by simp; omega) ?_
    have e2 : ((h.map PyData.int).take d.2 ++ [PyData.int (at0 h d.2 + 1)]) ++ (h.map PyData.int).drop (d.2 + 1) = (step h d).map PyData.int := by
      unfold step
      rw [e, if_pos rfl, ← List.map_take, ← List.map_drop, List.map_set, List.set_eq_take_append_cons_drop, if_pos hd', List.map_take, List.map_drop, List.append_assoc]
      rfl
    rw [e2]
    exact hp
  · refine ev_un <| ev_int <| ru_neg <| rd_i <| ea_nil ⟨by simp, ?_⟩
    rw [cut_take (by omega)]
    refine rd_catT (by simp; omega) <| ev_sl <| ev_var rfl <| eo_part (ev_op <| ev_var rfl <| ev_int <| rd_i ⟨_, rfl, eo_no <| rs_tup ?_⟩)
    rw [show (d.2 : Int) + 1 = ((d.2 + 1 : Nat) : Int) by omega, cut_drop (by omega)]
    refine rd_catT (by simp; omega) ?_
    have e2 : ((h.map PyData.int).take d.2 ++ [PyData.int (at0 h d.2 + -1)]) ++ (h.map PyData.int).drop (d.2 + 1) = (step h d).map PyData.int := by
      unfold step
      rw [e, if_neg Bool.false_ne_true, ← List.map_take, ← List.map_drop, List.map_set, List.set_eq_take_append_cons_drop, if_pos hd', List.map_take, List.map_drop, List.append_assoc]
      rfl
    rw [e2]
    exact hp
def R_doable : List PyData → (PyData → Prop) → Prop := fun ds Pw => ∃ (n : Nat) (E : Edges) (r : Nat) (h : List Int), ds = [webD n E, .int r, encI h] ∧ Web n E ∧ h.length = n ∧ Pw (.list ((deedsL n E r h).map encD))
theorem filter_true {α : Type} (xs : List α) : xs.filter (fun _ => true) = xs := by
  induction xs with
  | nil => rfl
  | cons x xs ih => rw [List.filter_cons_of_pos rfl, ih]
theorem w_doable (B : Bi mg) (D : DefG K mg "doable" s_doable) (C_lower_in : Cal P w K mg base 2 "lower_in" ["web", "heights"] (spP K 2 R_lower_in)) (C_raise_in : Cal P w K mg base 2 "raise_in" ["web", "roof", "heights"] (spP K 3 R_raise_in)) : Cal P w K mg base 3 "doable" ["web", "roof", "heights"] (spP K 3 R_doable) := by
  refine mk_cal (k := 2) (N := ["web", "roof", "heights", "up", "place"]) R_doable D sc_doable (fun _ _ _ _ _ _ us hl => match us, hl with | [_, _, _], _ => rfl) (fun f cdv A outer s H E hr => ⟨_, (pss_cons (ps_setLc (i := 3) (own := [("place", 4)]) rfl sc_doable.nd rfl rfl rfl (kpi_list K rfl (pe_cal (C_raise_in.mono (by decide)) hr (by rfl) (pa_cons (pv 0) (pa_cons (pv 1) (pa_cons (pv 2) pa_nil))))) (blkOk_by (N := ["web", "roof", "heights", "up", "place"]) (sc := defScope s_doable) (by decide +kernel)) (fun _ _ _ _ _ => (pg_name (i := 4) sc_doable.nd rfl (by first | exact .inl rfl | exact .inr rfl))) (fun _ _ _ _ _ => pts_nil) (fun _ _ _ _ _ => (pe_tup (pa_cons pe_bl (pa_cons (pv 4) pa_nil)))))
      (pss_one (ps_ret (pe_op op_cat (pv 3) (pe_lc (own := [("place", 4)]) rfl sc_doable.nd (kpi_list K rfl (pe_cal (C_lower_in.mono (by decide)) hr (by rfl) (pa_cons (pv 0) (pa_cons (pv 2) pa_nil)))) (blkOk_by (N := ["web", "roof", "heights", "up", "place"]) (sc := defScope s_doable) (by decide +kernel)) (fun _ _ _ _ _ => (pg_name (i := 4) sc_doable.nd rfl (by first | exact .inl rfl | exact .inr rfl))) (fun _ _ _ _ _ => pts_nil) (fun _ _ _ _ _ => (pe_tup (pa_cons pe_bl (pa_cons (pv 4) pa_nil))))))))), fun ds Pw hl hR => ?_⟩)
  obtain ⟨n, E, r, h, rfl, W, hn, hp⟩ := hR
  have n4 := W.n4
  have l1 := filter_len (xs := List.range n) (c := canUp n E r h)
  have l2 := filter_len (xs := List.range n) (c := canDn n E h)
  rw [List.length_range] at l1 l2
  refine es_seq <| es_set <| ev_lcP (α := Nat) (js := [4]) (by decide) <| ei_list <| ev_call <| ea_cons <| ev_var rfl <| ea_cons <| ev_var rfl <| ea_cons <| ev_var rfl <| ea_nil ⟨rfl, n, E, r, h, rfl, W, hn, _, rfl, _, iN, fun _ => true, fun k => encD (true, k), trivial, rfl, by omega, ?_, ?_⟩
  · intro k hk
    exact g_name <| et_yes ⟨rfl, Br.t <| ev_tup <| ea_cons <| ev_bl <| ea_cons <| ev_var rfl <| ea_nil ⟨by simp, rfl, rfl⟩⟩
  · refine es_ret <| ev_op <| ev_var rfl <| ev_lcP (α := Nat) (js := [4]) (by decide) <| ei_list <| ev_call <| ea_cons <| ev_var rfl <| ea_cons <| ev_var rfl <| ea_nil ⟨rfl, n, E, h, rfl, W, hn, _, rfl, _, iN, fun _ => true, fun k => encD (false, k), trivial, rfl, by omega, ?_, ?_⟩
    · intro k hk
      exact g_name <| et_yes ⟨rfl, Br.t <| ev_tup <| ea_cons <| ev_bl <| ea_cons <| ev_var rfl <| ea_nil ⟨by simp, rfl, rfl⟩⟩
    · rw [filter_true, filter_true]
      refine rd_cat (by rw [List.length_map, List.length_map]; omega) ?_
      have e : (deedsL n E r h).map encD = (((List.range n).filter (canUp n E r h)).map fun k => encD (true, k)) ++ ((List.range n).filter (canDn n E h)).map fun k => encD (false, k) := by
        unfold deedsL
        rw [List.map_append, List.map_map, List.map_map]
        rfl
      rw [e] at hp
      exact hp
def R_is_deed : List PyData → (PyData → Prop) → Prop := fun ds Pw => ∃ (n : Nat) (E : Edges) (x : (Bool ⊕ Int) × Int), ds = [webD n E, encX x] ∧ Pw (.bool (isDeedB n x))
theorem w_is_deed (B : Bi mg) (D : DefG K mg "is_deed" s_is_deed) (C_is_in : Cal P w K mg base 1 "is_in" ["value", "least", "most"] (spP K 3 R_is_in)) : Cal P w K mg base 2 "is_deed" ["web", "value"] (spP K 2 R_is_deed) := by
  refine mk_cal (k := 1) (N := ["web", "value"]) R_is_deed D sc_is_deed (fun _ _ _ _ _ _ us hl => match us, hl with | [_, _], _ => rfl) (fun f cdv A outer s H E hr => ⟨_, (pss_cons (ps_if (PW.pt (pw_or (pt_not (pt_val (pe_callB (kcall_isi K rfl) (by rfl) B.isinstance (by decide +kernel) (pa_cons (pv 1) (pa_cons (pe_bltn (v := .ty "tuple") (by rfl) B.tuple (by decide +kernel) rfl) pa_nil))))) (pw_or (pt_cmpR (kop_neD K rfl hr.units) (pe_callB (kcall_len K rfl) (by rfl) B.len (by decide +kernel) (pa_cons (pv 1) pa_nil)) pe_int (nomark _)) (pw_or1 (pt_not (pt_val (pe_callB (kcall_isi K rfl) (by rfl) B.isinstance (by decide +kernel) (pa_cons (pe_ix (kix_seq K rfl) (pv 1) pe_int (fun _ _ => rfl)) (pa_cons (pe_bltn (v := .ty "bool") (by rfl) B.bool (by decide +kernel) rfl) pa_nil))))))))) (pss_one (ps_ret pe_bl)) pss_nil)
      (pss_one (ps_ret (pe_cal (C_is_in.mono (by decide)) hr (by rfl) (pa_cons (pe_ix (kix_seq K rfl) (pv 1) pe_int (fun _ _ => rfl)) (pa_cons pe_int (pa_cons (pe_op op_sub (pe_ix (kix_seq K rfl) (pv 0) pe_int (fun _ _ => rfl)) pe_int) pa_nil))))))), fun ds Pw hl hR => ?_⟩)
  obtain ⟨n, E, x, rfl, hp⟩ := hR
  refine es_seq <| es_if <| et_or <| et_not <| et_B <| ev_isi kit_tuple <| ev_var rfl ⟨_, rfl, Br.f ?_⟩
  refine et_or <| et_test <| ev_op <| ev_cb <| ea_cons <| ev_var rfl <| ea_nil <| rc_lenT <| ev_int <| rd_ne okI okI ⟨false, rfl, Br.f ?_⟩
  refine et_not <| et_B <| ev_isi kit_bool <| ev_op <| ev_var rfl <| ev_int <| rd_ixT (d := encS x.1) rfl ⟨_, rfl, ?_⟩
  rw [isBol_encS]
  refine ⟨fun e => ?_, fun e => ?_⟩
  · have e2 : x.1.isLeft = false := by revert e; cases x.1.isLeft <;> simp
    refine es_ret <| ev_bl ?_
    have : isDeedB n x = false := by unfold isDeedB; rw [e2]; rfl
    rw [this] at hp
    exact hp
  · have e2 : x.1.isLeft = true := by revert e; cases x.1.isLeft <;> simp
    refine es_next <| es_ret <| ev_call <| ea_cons <| ev_op <| ev_var rfl <| ev_int <| rd_ixT (d := .int x.2) rfl <| ea_cons <| ev_int <| ea_cons <| ev_op <| ev_op <| ev_var rfl <| ev_int <| rd_ixT rfl <| ev_int <| rd_i <| ea_nil ⟨rfl, _, _, _, rfl, ?_⟩
    have : isDeedB n x = isInB (.int x.2) 0 ((n : Int) - 1) := by
      unfold isDeedB
      rw [e2, Bool.true_and]
      show (decide (0 ≤ x.2) && decide (x.2 < n)) = (decide (0 ≤ x.2) && decide (x.2 ≤ (n : Int) - 1))
      congr 1
      exact decide_eq_decide.mpr (by omega)
    rw [this] at hp
    exact hp
def R_is_deeds : List PyData → (PyData → Prop) → Prop := fun ds Pw => ∃ (n : Nat) (E : Edges) (v : Val), ds = [webD n E, encV v] ∧ vLen v ≤ 200 ∧ Pw (.bool (isDeedsB n v))
theorem all_isEmpty {α : Type} (xs : List α) (c : α → Bool) : (xs.filter fun x => !c x).isEmpty = xs.all c := by
  rw [Bool.eq_iff_iff, List.isEmpty_iff, List.filter_eq_nil_iff, List.all_eq_true]
  simp
theorem w_is_deeds (B : Bi mg) (D : DefG K mg "is_deeds" s_is_deeds) (C_is_deed : Cal P w K mg base 2 "is_deed" ["web", "value"] (spP K 2 R_is_deed)) : Cal P w K mg base 3 "is_deeds" ["web", "value"] (spP K 2 R_is_deeds) := by
  refine mk_cal (k := 2) (N := ["web", "value", "one"]) R_is_deeds D sc_is_deeds (fun _ _ _ _ _ _ us hl => match us, hl with | [_, _], _ => rfl) (fun f cdv A outer s H E hr => ⟨_, (pss_cons (ps_if (PW.pt (pw_or (pt_not (pt_val (pe_callB (kcall_isi K rfl) (by rfl) B.isinstance (by decide +kernel) (pa_cons (pv 1) (pa_cons (pe_bltn (v := .ty "tuple") (by rfl) B.tuple (by decide +kernel) rfl) pa_nil))))) (pw_or1 (pt_cmpR op_gt (pe_callB (kcall_len K rfl) (by rfl) B.len (by decide +kernel) (pa_cons (pv 1) pa_nil)) (pe_glob (v := .int 200) (by rfl) (B.MOST_WORD).choose_spec ⟨_, rfl⟩) (nomark _))))) (pss_one (ps_ret pe_bl)) pss_nil)
      (pss_one (ps_ret (pe_cmpR (kop_eqD K rfl hr.units) (pe_lc (own := [("one", 2)]) rfl sc_is_deeds.nd (kpi_tup K rfl (pv 1)) (blkOk_by (N := ["web", "value", "one"]) (sc := defScope s_is_deeds) (by decide +kernel)) (fun _ _ _ _ _ => (pg_name (i := 2) sc_is_deeds.nd rfl (by first | exact .inl rfl | exact .inr rfl))) (fun _ _ _ _ _ => (pts_one (pt_not (pt_val (pe_cal (C_is_deed.mono (by decide)) hr (by rfl) (pa_cons (pv 0) (pa_cons (pv 2) pa_nil))))))) (fun _ _ _ _ _ => (pv 2))) (pe_lst pa_nil) (nomark _))))), fun ds Pw hl hR => ?_⟩)
  obtain ⟨n, E, v, rfl, hz, hp⟩ := hR
  refine es_seq <| es_if <| et_or <| et_not <| et_B <| ev_isi kit_tuple <| ev_var rfl ⟨_, rfl, ?_⟩
  cases v with
  | tup xs =>
    have hz : xs.length ≤ 200 := hz
    refine Br.f <| et_test <| ev_op <| ev_cb <| ea_cons <| ev_var rfl <| ea_nil <| rc_lenT <| ev_int <| rd_b ⟨_, rfl, ?_⟩
    rw [List.length_map, decide_eq_false (by omega)]
    refine Br.f <| es_next <| es_ret <| ev_op <| ev_lcP (α := (Bool ⊕ Int) × Int) (js := [2]) (by decide) <| ei_tup <| ev_var rfl ⟨_, rfl, xs, encX, fun x => !isDeedB n x, encX, trivial, rfl, by omega, ?_, ?_⟩
    · intro x hx
      exact g_name <| et_not <| et_B <| ev_call <| ea_cons <| ev_var rfl <| ea_cons <| ev_var rfl <| ea_nil ⟨rfl, n, E, x, rfl, _, rfl, rfl, fun _ => ev_var rfl ⟨rfl, rfl⟩, fun _ => rfl⟩
    · refine ev_lst <| ea_nil ⟨by decide, ?_⟩
      refine rd_eq (okM fun x => ?_) okNil ?_
      · unfold encX
        refine Sh.tup (Sh.cons ?_ (Sh.cons Sh.int Sh.nil))
        cases x.1
        · exact Sh.bool
        · exact Sh.int
      · rw [eqv_mapNil, all_isEmpty]
        exact hp
  | _ =>
    refine Br.t <| Br.t ?_
    refine es_ret <| ev_bl ?_
    exact hp
def R_line_in : List PyData → (PyData → Prop) → Prop := fun ds Pw => ∃ (n : Nat) (E : Edges) (r : Nat) (h : List Int) (w : List Deed), ds = [webD n E, .int r, encI h, .tuple (w.map encD)] ∧ Web n E ∧ h.length = n ∧ w.length ≤ 1000 ∧ Pw (.list ((lineL n E r h w).map encI))
theorem w_line_in (B : Bi mg) (D : DefG K mg "line_in" s_line_in) (C_changed : Cal P w K mg base 1 "changed" ["heights", "deed"] (spP K 2 R_changed)) (C_doable : Cal P w K mg base 3 "doable" ["web", "roof", "heights"] (spP K 3 R_doable)) : Cal P w K mg base 4 "line_in" ["web", "roof", "heights", "word"] (spP K 4 R_line_in) := by
  refine mk_cal (k := 3) (N := ["web", "roof", "heights", "word", "found", "deed"]) R_line_in D sc_line_in (fun _ _ _ _ _ _ us hl => match us, hl with | [_, _, _, _], _ => rfl) (fun f cdv A outer s H E hr => ⟨_, (pss_cons (ps_set (i := 4) sc_line_in.nd rfl (by first | exact .inl rfl | exact .inr rfl) (pe_lst (pa_cons (pv 2) pa_nil)))
      (pss_cons (ps_for PassesOwn.never rfl (kpi_tup K rfl (pv 3)) (pg_name (i := 5) sc_line_in.nd rfl (by first | exact .inl rfl | exact .inr rfl)) (pss_cons (ps_if (pt_cmpR (kop_notInD K rfl hr.u65) (pv 5) (pe_cal (C_doable.mono (by decide)) hr (by rfl) (pa_cons (pv 0) (pa_cons (pv 1) (pa_cons (pe_ix (kix_seq K rfl) (pv 4) (pe_un un_neg pe_int) (fun _ _ => rfl)) pa_nil)))) (by rfl)) (pss_one (ps_ret (pv 4))) pss_nil)
      (pss_one (ps_expr (pe_bm PySem.F.plainAttrs_list PySem.F.slot_list_append PySem.F.type_list_append mt_append (pv 4) (pa_cons (pe_cal (C_changed.mono (by decide)) hr (by rfl) (pa_cons (pe_ix (kix_seq K rfl) (pv 4) (pe_un un_neg pe_int) (fun _ _ => rfl)) (pa_cons (pv 5) pa_nil))) pa_nil))))))
      (pss_one (ps_ret (pv 4))))), fun ds Pw hl hR => ?_⟩)
  obtain ⟨n, E, r, h, w, rfl, W, hn, hw, hp⟩ := hR
  have n4 := W.n4
  refine es_seq <| es_own <| ea_cons <| ev_var rfl <| ea_nil ⟨by simp, fun l _ => ?_⟩
  refine es_seq <| es_for (js := [5]) <| ei_tup <| ev_var rfl ⟨_, rfl, fun i ρ' => ∃ x pre cur, ρ' = [.da (webD n E), .da (.int r), .da (encI h), .da (.tuple (w.map encD)), .ow l (.ls ((pre ++ [cur]).map encI)), x] ∧ cur.length = n ∧ pre.length = i ∧ lineL n E r h w = pre ++ lineL n E r cur (w.drop i), fun _ _ _ => trivial, ⟨_, [], h, rfl, hn, rfl, rfl⟩, ?_, ?_⟩
  · rintro i d ρ' hd ⟨x, pre, cur, rfl, hc, hi, hl2⟩
    rw [List.getElem?_map] at hd
    cases hg : w[i]? with
    | none => rw [hg] at hd; cases hd
    | some e =>
      rw [hg] at hd
      cases hd
      have hiw := (List.getElem?_eq_some_iff.mp hg).1
      have ed : w.drop i = e :: w.drop (i + 1) := by rw [List.drop_eq_getElem_cons hiw, (List.getElem?_eq_some_iff.mp hg).2]
      have last : atI ((pre ++ [cur]).map encI) (-1) = some (encI cur) := by rw [List.map_append]; exact atI_last _ _
      refine g_name <| es_seq <| es_if <| et_test <| ev_op <| ev_var rfl <| ev_call <| ea_cons <| ev_var rfl <| ea_cons <| ev_var rfl <| ea_cons <| ev_ixO (ev_un <| ev_int <| ru_neg ⟨_, l, _, _, rfl, rfl, rfl, last, ea_nil ⟨rfl, n, E, r, cur, rfl, W, hc, ?_⟩⟩) ⟨_, _, rfl⟩
      refine rd_ni okD (okM fun _ => Sh.encD) ⟨_, rfl, ?_⟩
      rw [any_encD]
      refine ⟨fun e1 => ?_, fun e1 => ?_⟩
      · have e2 : ¬ e ∈ deedsL n E r cur := by revert e1; simp
        refine es_ret <| ev_take rfl ?_
        rw [ed] at hl2
        have e3 : lineL n E r cur (e :: w.drop (i + 1)) = [cur] := if_neg e2
        rw [e3] at hl2
        rw [hl2] at hp
        exact hp
      · have e2 : e ∈ deedsL n E r cur := by revert e1; simp
        refine es_next <| es_app ⟨_, rfl⟩ <| ev_call <| ea_cons <| ev_ixO (ev_un <| ev_int <| ru_neg ⟨_, l, _, _, rfl, rfl, rfl, last, ea_cons <| ev_var rfl <| ea_nil ⟨rfl, cur, e, rfl, by rw [hc]; exact mem_deedsL e2, by omega, _, rfl, ?_, ⟨.da (encD e), pre ++ [cur], step cur e, ?_, ?_, ?_, ?_⟩⟩⟩) ⟨_, _, rfl⟩
        · rw [List.length_map, List.length_append, List.length_singleton]
          omega
        · rw [List.map_append (l₁ := pre ++ [cur])]
          rfl
        · rw [step_len]; exact hc
        · rw [List.length_append, List.length_singleton, hi]
        · rw [hl2, ed]
          have e3 : lineL n E r cur (e :: w.drop (i + 1)) = cur :: lineL n E r (step cur e) (w.drop (i + 1)) := if_pos e2
          rw [e3, List.append_assoc]
          rfl
  · rintro ρ' ⟨x, pre, cur, rfl, hc, hi, hl2⟩
    rw [List.length_map, List.drop_length] at hl2
    refine es_ret <| ev_take rfl ?_
    have e3 : lineL n E r cur [] = [cur] := rfl
    rw [e3] at hl2
    rw [hl2] at hp
    exact hp
end
end Lv
/-! Lm1: the least of pairs (cost, heights); all heights. -/
namespace Lv
open PySem PySem.Spec PyProof.Rows L2 Lw
open PySem.W (minD dataLt AlikeAll alike alikeAll dataLt_pair dataLt_int dataLt_ints dataLt_tuple)
abbrev CH := Int × List Int
abbrev encC (c : CH) : PyData := .tuple [.int c.1, encI c.2]
def ltP (a b : CH) : Prop := a.1 < b.1 ∨ (a.1 = b.1 ∧ a.2 < b.2)
instance (a b : CH) : Decidable (ltP a b) := by unfold ltP; infer_instance
structure LeastP (L : List CH) (m : CH) : Prop where
  mem : m ∈ L
  le : ∀ x ∈ L, ¬ ltP x m
theorem ltP_trans {a b c : CH} (h1 : ltP a b) (h2 : ltP b c) : ltP a c := by
  rcases h1 with h1 | ⟨e1, l1⟩ <;> rcases h2 with h2 | ⟨e2, l2⟩
  · exact .inl (by omega)
  · exact .inl (by omega)
  · exact .inl (by omega)
  · exact .inr ⟨by omega, List.lt_trans l1 l2⟩
theorem ltP_irrefl (a : CH) : ¬ ltP a a := fun h => by
  rcases h with h | ⟨_, h⟩
  · omega
  · exact List.lt_irrefl _ h
theorem LeastP.uniq {L L' : List CH} (h : ∀ x, x ∈ L ↔ x ∈ L') {m m' : CH} (a : LeastP L m) (b : LeastP L' m') : m = m' := by
  have h1 := a.le m' ((h _).mpr b.mem)
  have h2 := b.le m ((h _).mp a.mem)
  obtain ⟨c, x⟩ := m
  obtain ⟨c', x'⟩ := m'
  unfold ltP at h1 h2
  simp only at h1 h2
  have e : c = c' := by omega
  subst e
  have e2 : x = x' := List.le_antisymm (List.not_lt.mp fun z => h1 (.inr ⟨rfl, z⟩)) (List.not_lt.mp fun z => h2 (.inr ⟨rfl, z⟩))
  rw [e2]
theorem alike_encC (a b : CH) : alike (encC a) (encC b) = true := by
  show alikeAll [.int a.1, encI a.2] [.int b.1, encI b.2] = true
  simp only [alikeAll, alike, Bool.true_and, Bool.and_true]
  exact alike_ints _ _
theorem dataLt_encC (a b : CH) : dataLt (encC a) (encC b) = decide (ltP a b) := by
  have h1 : alike (.int a.1) (.int b.1) = true := by simp [alike]
  have h2 : alike (encI a.2) (encI b.2) = true := by simp only [alike]; exact alike_ints _ _
  rw [dataLt_pair h1 h2, eqv_int, eqv_encI, dataLt_int, dataLt_tuple]
  have e := dataLt_ints a.2 b.2
  unfold PySem.W.rowLt at e
  rw [e]
  unfold ltP
  by_cases e1 : a.1 = b.1
  · by_cases e2 : a.2 = b.2
    · have : ¬ b.2 < b.2 := List.lt_irrefl _
      simp [e1, e2, this]
    · simp [e1, e2]
  · simp [e1]
theorem minD_least : ∀ (L pre : List CH) (c : CH), c ∈ pre → (∀ x ∈ pre, ¬ ltP x c) → ∃ m, minD (encC c) (L.map encC) = encC m ∧ m ∈ pre ++ L ∧ ∀ x ∈ pre ++ L, ¬ ltP x m
  | [], pre, c, h1, h2 => ⟨c, rfl, by rw [List.append_nil]; exact h1, by rw [List.append_nil]; exact h2⟩
  | y :: L, pre, c, h1, h2 => by
    have e : minD (encC c) ((y :: L).map encC) = minD (if dataLt (encC y) (encC c) then encC y else encC c) (L.map encC) := rfl
    rw [e, dataLt_encC]
    by_cases hy : ltP y c
    · rw [if_pos (decide_eq_true hy)]
      obtain ⟨m, m1, m2, m3⟩ := minD_least L (pre ++ [y]) y (by simp) fun x hx => by
        rcases List.mem_append.mp hx with hx | hx
        · exact fun z => h2 x hx (ltP_trans z hy)
        · rw [List.mem_singleton.mp hx]; exact ltP_irrefl _
      rw [List.append_assoc] at m2 m3
      exact ⟨m, m1, m2, m3⟩
    · rw [if_neg (by rw [decide_eq_false hy]; exact Bool.false_ne_true)]
      obtain ⟨m, m1, m2, m3⟩ := minD_least L (pre ++ [y]) c (by simp [h1]) fun x hx => by
        rcases List.mem_append.mp hx with hx | hx
        · exact h2 x hx
        · rw [List.mem_singleton.mp hx]; exact hy
      rw [List.append_assoc] at m2 m3
      exact ⟨m, m1, m2, m3⟩
theorem Sh.encC {n : Nat} {c : CH} : Sh (n + 2) (encC c) := Sh.tup (Sh.cons Sh.int (Sh.cons Sh.encI Sh.nil))
theorem rc_minP {K : PySem.W.Frag} {ρ : List En} {P : Pd} {L : List CH} (hn : L ≠ []) (q : ∀ m, LeastP L m → P (Lv.encC m) ρ) : RC K (rMinD K) [.list (L.map Lv.encC)] ρ P := by
  cases L with
  | nil => exact absurd rfl hn
  | cons c L =>
    obtain ⟨h1, h2⟩ := Sh.all (n := 8) (ds := (c :: L).map Lv.encC) (Sh.map fun _ => Sh.encC)
    refine rc_minD ⟨fun x hx y hy => ?_, fun x hx => ?_⟩ (Nat.le_trans h2 (by decide)) h1 ?_
    · have hx : x ∈ (c :: L).map Lv.encC := hx
      have hy : y ∈ (c :: L).map Lv.encC := hy
      obtain ⟨a, _, rfl⟩ := List.mem_map.mp hx
      obtain ⟨b, _, rfl⟩ := List.mem_map.mp hy
      exact alike_encC a b
    · have hx : x ∈ (c :: L).map Lv.encC := hx
      obtain ⟨a, _, rfl⟩ := List.mem_map.mp hx
      exact fun z => nomatch z
    · obtain ⟨m, m1, m2, m3⟩ := minD_least L [c] c (by simp) fun x hx => by rw [List.mem_singleton.mp hx]; exact ltP_irrefl _
      rw [m1]
      exact q m ⟨m2, m3⟩
/-! ### all heights -/
theorem at0_append_lt {h : List Int} {x : Int} {k : Nat} (hk : k < h.length) : at0 (h ++ [x]) k = at0 h k := by
  unfold at0
  rw [List.getD_eq_getElem?_getD, List.getD_eq_getElem?_getD, List.getElem?_append_left hk]
theorem at0_append_eq {h : List Int} {x : Int} {k : Nat} (hk : k = h.length) : at0 (h ++ [x]) k = x := by
  subst hk
  unfold at0
  rw [List.getD_eq_getElem?_getD, List.getElem?_append_right (Nat.le_refl _), Nat.sub_self]
  rfl
theorem mem_allH : ∀ {n r : Nat} {h : List Int}, h ∈ allH n r ↔ IsH n r h
  | 0, r, h => by
    unfold allH
    rw [List.mem_singleton]
    constructor
    · rintro rfl
      exact ⟨rfl, fun _ z => absurd z (Nat.not_lt_zero _), fun _ z => absurd z (Nat.not_lt_zero _)⟩
    · intro I
      exact List.length_eq_zero_iff.mp I.len
  | n + 1, r, h => by
    unfold allH
    rw [List.mem_flatMap]
    constructor
    · rintro ⟨one, h1, h2⟩
      obtain ⟨x, hx, rfl⟩ := List.mem_map.mp h2
      have I := mem_allH.mp h1
      have hx := List.mem_range.mp hx
      have hl := I.len
      refine ⟨by simp [hl], fun k hk => ?_, fun k hk => ?_⟩
      · by_cases e : k < n
        · rw [at0_append_lt (by omega)]; exact I.lo k e
        · rw [at0_append_eq (by omega)]; omega
      · by_cases e : k < n
        · rw [at0_append_lt (by omega)]; exact I.hi k e
        · rw [at0_append_eq (by omega)]; omega
    · intro I
      have hl := I.len
      have hne : h ≠ [] := fun z => by rw [z] at hl; cases hl
      have e := List.dropLast_concat_getLast hne
      have l2 : h.dropLast.length = n := by rw [List.length_dropLast, hl]; rfl
      have g : at0 h n = h.getLast hne := by
        have := at0_append_eq (h := h.dropLast) (x := h.getLast hne) (k := n) l2.symm
        rw [e] at this
        exact this
      have lo := I.lo n (by omega)
      have hi := I.hi n (by omega)
      refine ⟨h.dropLast, mem_allH.mpr ⟨l2, fun k hk => ?_, fun k hk => ?_⟩, List.mem_map.mpr ⟨(at0 h n).toNat, List.mem_range.mpr (by omega), ?_⟩⟩
      · have := I.lo k (by omega)
        rw [← e, at0_append_lt (by omega)] at this
        exact this
      · have := I.hi k (by omega)
        rw [← e, at0_append_lt (by omega)] at this
        exact this
      · have q : ((at0 h n).toNat : Int) = h.getLast hne := by rw [← g]; omega
        rw [q]
        exact e
theorem allH_nodup : ∀ (n r : Nat), (allH n r).Nodup
  | 0, r => by unfold allH; simp
  | n + 1, r => by
    have ih := allH_nodup n r
    unfold allH
    have go : ∀ L : List (List Int), L.Nodup → (L.flatMap fun one => (List.range (r + 1)).map fun (h : Nat) => one ++ [(h : Int)]).Nodup := by
      intro L
      induction L with
      | nil => intro _; simp
      | cons x L ihL =>
        intro hL
        rw [List.flatMap_cons, List.nodup_append]
        obtain ⟨h1, h2⟩ := List.nodup_cons.mp hL
        refine ⟨?_, ihL h2, ?_⟩
        · refine List.pairwise_map.mpr (List.Pairwise.imp (fun {a b} hab z => ?_) (List.nodup_range (n := r + 1)))
          have z := List.append_cancel_left z
          injection z with z _
          exact hab (by omega)
        · intro a ha b hb e
          obtain ⟨k, _, rfl⟩ := List.mem_map.mp ha
          obtain ⟨y, hy, hb⟩ := List.mem_flatMap.mp hb
          obtain ⟨k', _, rfl⟩ := List.mem_map.mp hb
          have := (List.append_inj' e rfl).1
          subst this
          exact h1 hy
    exact go _ ih
theorem flat_len (L : List (List Int)) (r : Nat) : (L.flatMap fun one => (List.range (r + 1)).map fun (h : Nat) => one ++ [(h : Int)]).length = L.length * (r + 1) := by
  induction L with
  | nil => simp
  | cons x L ih =>
    rw [List.flatMap_cons, List.length_append, ih, List.length_map, List.length_range, List.length_cons, Nat.succ_mul, Nat.add_comm]
theorem allH_len : ∀ (n r : Nat), (allH n r).length = (r + 1) ^ n
  | 0, r => rfl
  | n + 1, r => by
    unfold allH
    rw [flat_len, allH_len n r, Nat.pow_succ]
end Lv
/-! Ld4: steep edges, reach, costs of the program. -/
namespace Lv
open PySem PySem.Spec PyProof.Rows L2 Lw
def steep1 (h : List Int) (e : Nat × Nat) : Option (Nat × Nat) := if 2 ≤ at0 h e.2 - at0 h e.1 then some (e.1, e.2) else if 2 ≤ at0 h e.1 - at0 h e.2 then some (e.2, e.1) else none
theorem steepL_eq (E : Edges) (h : List Int) : steepL E h = E.filterMap (steep1 h) := rfl
theorem steep_succ {E : Edges} {h : List Int} {i : Nat} {e : Nat × Nat} (he : E[i]? = some e) : (E.take (i + 1)).filterMap (steep1 h) = (E.take i).filterMap (steep1 h) ++ (steep1 h e).toList := by
  rw [List.take_add_one, he, List.filterMap_append]
  congr 1
theorem steep_lt {n : Nat} {E : Edges} (W : Web n E) {h : List Int} {e : Nat × Nat} (he : e ∈ steepL E h) : e.1 < n ∧ e.2 < n := by
  obtain ⟨x, hx, e1⟩ := List.mem_filterMap.mp he
  have := W.ok x hx
  split at e1
  · cases e1; exact ⟨by omega, by omega⟩
  · split at e1
    · cases e1; exact ⟨by omega, by omega⟩
    · cases e1
theorem steep_len {E : Edges} {h : List Int} (hl : E.length ≤ 64) : (steepL E h).length ≤ 64 := Nat.le_trans (List.length_filterMap_le _ _) hl
section
variable {P : Program} {w : World} {K : PySem.W.Frag} {mg : Str → Option Value} {base : Heap}
def R_steep_in : List PyData → (PyData → Prop) → Prop := fun ds Pw => ∃ (n : Nat) (E : Edges) (h : List Int), ds = [webD n E, encI h] ∧ Web n E ∧ h.length = n ∧
  ∀ s : List (Nat × Nat), s.length ≤ 64 → (∀ e, e ∈ s ↔ e ∈ steepL E h) → Pw (.list (s.map eN))
theorem w_steep_in (B : Bi mg) (D : DefG K mg "steep_in" s_steep_in) : Cal P w K mg base 1 "steep_in" ["web", "heights"] (spP K 2 R_steep_in) := by
  refine mk_cal (k := 0) (N := ["web", "heights", "found", "one", "other"]) R_steep_in D sc_steep_in (fun _ _ _ _ _ _ us hl => match us, hl with | [_, _], _ => rfl) (fun f cdv A outer s H E hr => ⟨_, (pss_cons (ps_set (i := 2) sc_steep_in.nd rfl (by first | exact .inl rfl | exact .inr rfl) (pe_lst pa_nil))
      (pss_cons (ps_for PassesOwn.never rfl (kpi_tup K rfl (pe_ix (kix_seq K rfl) (pv 0) pe_int (fun _ _ => rfl))) (kpg_tup K rfl (n := 2) rfl (pgs_cons (pg_name (i := 3) sc_steep_in.nd rfl (by first | exact .inl rfl | exact .inr rfl)) (pgs_cons (pg_name (i := 4) sc_steep_in.nd rfl (by first | exact .inl rfl | exact .inr rfl)) pgs_nil))) (pss_one (ps_if (pt_cmpR op_ge (pe_op op_sub (pe_ix (kix_seq K rfl) (pv 1) (pv 4) (fun _ _ => rfl)) (pe_ix (kix_seq K rfl) (pv 1) (pv 3) (fun _ _ => rfl))) (pe_glob (v := .int 2) (by rfl) (B.HIGH).choose_spec ⟨_, rfl⟩) (nomark _)) (pss_one (ps_expr (pe_bm PySem.F.plainAttrs_list PySem.F.slot_list_append PySem.F.type_list_append mt_append (pv 2) (pa_cons (pe_tup (pa_cons (pv 3) (pa_cons (pv 4) pa_nil))) pa_nil)))) (pss_one (ps_if (pt_cmpR op_ge (pe_op op_sub (pe_ix (kix_seq K rfl) (pv 1) (pv 3) (fun _ _ => rfl)) (pe_ix (kix_seq K rfl) (pv 1) (pv 4) (fun _ _ => rfl))) (pe_glob (v := .int 2) (by rfl) (B.HIGH).choose_spec ⟨_, rfl⟩) (nomark _)) (pss_one (ps_expr (pe_bm PySem.F.plainAttrs_list PySem.F.slot_list_append PySem.F.type_list_append mt_append (pv 2) (pa_cons (pe_tup (pa_cons (pv 4) (pa_cons (pv 3) pa_nil))) pa_nil)))) pss_nil)))))
      (pss_one (ps_ret (pe_callB (kcr_sortedL K rfl hr.units) (by rfl) B.sorted (by decide +kernel) (pa_cons (pv 2) pa_nil)))))), fun ds Pw hl hR => ?_⟩)
  obtain ⟨n, E, h, rfl, W, hn, hp⟩ := hR
  refine es_seq <| es_own <| ea_nil ⟨by decide, fun l _ => ?_⟩
  refine es_seq <| es_for (js := [3, 4]) <| ei_tup <| ev_op <| ev_var rfl <| ev_int <| rd_ixT rfl ⟨_, rfl, fun i ρ' => ∃ x y, ρ' = [.da (webD n E), .da (encI h), .ow l (.ls (((E.take i).filterMap (steep1 h)).map eN)), x, y], fun _ _ _ => trivial, ⟨_, _, rfl⟩, ?_, ?_⟩
  · rintro i d ρ' hd ⟨x, y, rfl⟩
    rw [List.getElem?_map] at hd
    cases he : E[i]? with
    | none => rw [he] at hd; cases hd
    | some e =>
      rw [he] at hd
      cases hd
      have hm := W.ok e (List.mem_of_getElem? he)
      have hz : ((E.take i).filterMap (steep1 h)).length ≤ 64 := Nat.le_trans (List.length_filterMap_le _ _) (by rw [List.length_take]; have := W.len; omega)
      refine g_tup2 <| g_name <| g_name ?_
      refine es_if <| et_test <| ev_op <| ev_op <| ev_op <| ev_var rfl <| ev_var rfl <| rd_ixT (atH (by omega)) <| ev_op <| ev_var rfl <| ev_var rfl <| rd_ixT (atH (by omega)) <| rd_i <| ev_int <| rd_b ⟨_, rfl, Br.dec (fun h1 => ?_) (fun h1 => ?_)⟩
      · refine es_app ⟨_, rfl⟩ <| ev_tup <| ea_cons <| ev_var rfl <| ea_cons <| ev_var rfl <| ea_nil ⟨by simp, _, rfl, by rw [List.length_map]; omega, ⟨.da (iN e.1), .da (iN e.2), ?_⟩⟩
        rw [steep_succ he, show steep1 h e = some (e.1, e.2) from if_pos h1, List.map_append]
        rfl
      · refine es_if <| et_test <| ev_op <| ev_op <| ev_op <| ev_var rfl <| ev_var rfl <| rd_ixT (atH (by omega)) <| ev_op <| ev_var rfl <| ev_var rfl <| rd_ixT (atH (by omega)) <| rd_i <| ev_int <| rd_b ⟨_, rfl, Br.dec (fun h2 => ?_) (fun h2 => ?_)⟩
        · refine es_app ⟨_, rfl⟩ <| ev_tup <| ea_cons <| ev_var rfl <| ea_cons <| ev_var rfl <| ea_nil ⟨by simp, _, rfl, by rw [List.length_map]; omega, ⟨.da (iN e.1), .da (iN e.2), ?_⟩⟩
          rw [steep_succ he, show steep1 h e = some (e.2, e.1) from (if_neg h1).trans (if_pos h2), List.map_append]
          rfl
        · refine es_next ⟨.da (iN e.1), .da (iN e.2), ?_⟩
          rw [steep_succ he, show steep1 h e = none from (if_neg h1).trans (if_neg h2)]
          show _ = [_, _, En.ow l (.ls ((_ ++ []).map eN)), _, _]
          rw [List.append_nil]
          rfl
  · rintro ρ' ⟨x, y, rfl⟩
    have e0 : (E.take (E.map eN).length).filterMap (steep1 h) = steepL E h := by rw [List.length_map, List.take_length]; rfl
    rw [e0]
    have e1 : (steepL E h).map eN = ((steepL E h).map fun e => [(e.1 : Int), (e.2 : Int)]).map encI := by rw [List.map_map]; rfl
    refine es_ret <| ev_cb <| ea_cons <| ev_take rfl <| ea_nil ?_
    rw [e1]
    refine rc_sortL (fun x hx => ?_) fun ys pm => ?_
    · obtain ⟨_, _, rfl⟩ := List.mem_map.mp hx
      exact fun z => nomatch z
    · let g : List Int → Nat × Nat := fun l => ((l.getD 0 0).toNat, (l.getD 1 0).toNat)
      have back : ∀ y ∈ ys, [((g y).1 : Int), ((g y).2 : Int)] = y := fun y hy => by
        obtain ⟨e, _, rfl⟩ := List.mem_map.mp (pm.mem_iff.mp hy)
        rfl
      have e2 : ys.map encI = (ys.map g).map eN := by
        rw [List.map_map]
        refine List.map_congr_left fun y hy => ?_
        show encI y = encI [((g y).1 : Int), ((g y).2 : Int)]
        rw [back y hy]
      rw [e2]
      refine hp _ ?_ fun e => ?_
      · have := pm.length_eq
        rw [List.length_map] at this ⊢
        rw [this]
        exact steep_len W.len
      · rw [List.mem_map]
        constructor
        · rintro ⟨y, hy, rfl⟩
          obtain ⟨e, he, rfl⟩ := List.mem_map.mp (pm.mem_iff.mp hy)
          exact he
        · intro he
          exact ⟨[(e.1 : Int), (e.2 : Int)], pm.mem_iff.mpr (List.mem_map.mpr ⟨e, he, rfl⟩), rfl⟩
def R_comes_in : List PyData → (PyData → Prop) → Prop := fun ds Pw => ∃ (n : Nat) (E : Edges) (one other : List Int), ds = [webD n E, encI one, encI other] ∧ Web n E ∧ one.length = n ∧ other.length = n ∧ Pw (.bool (comesB E one other))
theorem w_comes_in (B : Bi mg) (D : DefG K mg "comes_in" s_comes_in) (C_steep_in : Cal P w K mg base 1 "steep_in" ["web", "heights"] (spP K 2 R_steep_in)) : Cal P w K mg base 2 "comes_in" ["web", "one", "other"] (spP K 3 R_comes_in) := by
  refine mk_cal (k := 1) (N := ["web", "one", "other", "some", "edge"]) R_comes_in D sc_comes_in (fun _ _ _ _ _ _ us hl => match us, hl with | [_, _, _], _ => rfl) (fun f cdv A outer s H E hr => ⟨_, (pss_cons (ps_set (i := 3) sc_comes_in.nd rfl (by first | exact .inl rfl | exact .inr rfl) (pe_cal (C_steep_in.mono (by decide)) hr (by rfl) (pa_cons (pv 0) (pa_cons (pv 2) pa_nil))))
      (pss_one (ps_ret (pe_cmpR (kop_eqD K rfl hr.units) (pe_lc (own := [("edge", 4)]) rfl sc_comes_in.nd (kpi_list K rfl (pv 3)) (blkOk_by (N := ["web", "one", "other", "some", "edge"]) (sc := defScope s_comes_in) (by decide +kernel)) (fun _ _ _ _ _ => (pg_name (i := 4) sc_comes_in.nd rfl (by first | exact .inl rfl | exact .inr rfl))) (fun _ _ _ _ _ => (pts_one (PW.pt (pw_or (pt_cmpR op_gt (pe_ix (kix_seq K rfl) (pv 1) (pe_ix (kix_seq K rfl) (pv 4) pe_int (fun _ _ => rfl)) (fun _ _ => rfl)) (pe_ix (kix_seq K rfl) (pv 2) (pe_ix (kix_seq K rfl) (pv 4) pe_int (fun _ _ => rfl)) (fun _ _ => rfl)) (nomark _)) (pw_or1 (pt_cmpR op_gt (pe_ix (kix_seq K rfl) (pv 2) (pe_ix (kix_seq K rfl) (pv 4) pe_int (fun _ _ => rfl)) (fun _ _ => rfl)) (pe_ix (kix_seq K rfl) (pv 1) (pe_ix (kix_seq K rfl) (pv 4) pe_int (fun _ _ => rfl)) (fun _ _ => rfl)) (nomark _))))))) (fun _ _ _ _ _ => (pv 4))) (pe_lst pa_nil) (nomark _))))), fun ds Pw hl hR => ?_⟩)
  obtain ⟨n, E, one, other, rfl, W, h1, h2, hp⟩ := hR
  refine es_seq <| es_set <| ev_call <| ea_cons <| ev_var rfl <| ea_cons <| ev_var rfl <| ea_nil ⟨rfl, n, E, other, rfl, W, h2, fun s hz hs => ?_⟩
  refine es_ret <| ev_op <| ev_lcP (α := Nat × Nat) (js := [4]) (by decide) <| ei_list <| ev_var rfl ⟨_, rfl, s, eN, fun e => decide (at0 other e.1 < at0 one e.1) || decide (at0 one e.2 < at0 other e.2), eN, trivial, rfl, by omega, ?_, ?_⟩
  · intro e he
    obtain ⟨l1, l2⟩ := steep_lt W ((hs e).mp he)
    refine g_name <| et_or <| et_test <| ev_op <| ev_op <| ev_var rfl <| ev_op <| ev_var rfl <| ev_int <| rd_ixT rfl <| rd_ixT (atH (by omega)) <| ev_op <| ev_var rfl <| ev_op <| ev_var rfl <| ev_int <| rd_ixT rfl <| rd_ixT (atH (by omega)) <| rd_b ⟨_, rfl, fun e1 => ?_, fun e1 => ?_⟩
    · refine ⟨?_, fun _ => ev_var rfl ⟨rfl, rfl⟩, fun _ => rfl⟩
      show true = (decide (at0 other e.1 < at0 one e.1) || decide (at0 one e.2 < at0 other e.2))
      rw [e1]
      rfl
    · refine et_test <| ev_op <| ev_op <| ev_var rfl <| ev_op <| ev_var rfl <| ev_int <| rd_ixT rfl <| rd_ixT (atH (by omega)) <| ev_op <| ev_var rfl <| ev_op <| ev_var rfl <| ev_int <| rd_ixT rfl <| rd_ixT (atH (by omega)) <| rd_b ⟨_, rfl, ?_, fun _ => ev_var rfl ⟨rfl, rfl⟩, fun _ => rfl⟩
      show _ = (decide (at0 other e.1 < at0 one e.1) || decide (at0 one e.2 < at0 other e.2))
      rw [e1]
      rfl
  · refine ev_lst <| ea_nil ⟨by decide, ?_⟩
    refine rd_eq (okM fun _ => Sh.eN) okNil ?_
    rw [eqv_mapNil]
    have e2 : (s.filter fun e => decide (at0 other e.1 < at0 one e.1) || decide (at0 one e.2 < at0 other e.2)).isEmpty = comesB E one other := by
      unfold comesB
      rw [Bool.eq_iff_iff, List.isEmpty_iff, List.filter_eq_nil_iff, List.all_eq_true]
      constructor
      · intro H e he
        have := H e ((hs e).mpr he)
        simp only [Bool.not_eq_true] at this
        rw [this]
        rfl
      · intro H e he
        have := H e ((hs e).mp he)
        simp only [Bool.not_eq_true']  at this
        rw [this]
        exact Bool.false_ne_true
    rw [e2]
    exact hp
def R_all_heights : List PyData → (PyData → Prop) → Prop := fun ds Pw => ∃ n r : Nat, ds = [.int n, .int r] ∧ n ≤ 9 ∧ r ≤ 9 ∧ (r + 1) ^ n ≤ 3000 ∧ Pw (.list ((allH n r).map encI))
theorem w_all_heights (B : Bi mg) (D : DefG K mg "all_heights" s_all_heights) : Cal P w K mg base 1 "all_heights" ["many", "roof"] (spP K 2 R_all_heights) := by
  refine mk_cal (k := 0) (N := ["many", "roof", "found", "place", "more", "one", "height"]) R_all_heights D sc_all_heights (fun _ _ _ _ _ _ us hl => match us, hl with | [_, _], _ => rfl) (fun f cdv A outer s H E hr => ⟨_, (pss_cons (ps_set (i := 2) sc_all_heights.nd rfl (by first | exact .inl rfl | exact .inr rfl) (pe_lst (pa_cons (pe_tup pa_nil) pa_nil)))
      (pss_cons (ps_for PassesOwn.never rfl (pi_range1 (by rfl) B.range (pa_cons (pv 0) pa_nil)) (pg_name (i := 3) sc_all_heights.nd rfl (by first | exact .inl rfl | exact .inr rfl)) (pss_cons (ps_set (i := 4) sc_all_heights.nd rfl (by first | exact .inl rfl | exact .inr rfl) (pe_lst pa_nil))
      (pss_cons (ps_for PassesOwn.never rfl (kpi_list K rfl (pv 2)) (pg_name (i := 5) sc_all_heights.nd rfl (by first | exact .inl rfl | exact .inr rfl)) (pss_one (ps_set (i := 4) sc_all_heights.nd rfl (by first | exact .inl rfl | exact .inr rfl) (pe_op op_cat (pv 4) (pe_lc (own := [("height", 6)]) rfl sc_all_heights.nd (pi_range1 (by rfl) B.range (pa_cons (pe_op op_add (pv 1) pe_int) pa_nil)) (blkOk_by (N := ["many", "roof", "found", "place", "more", "one", "height"]) (sc := defScope s_all_heights) (by decide +kernel)) (fun _ _ _ _ _ => (pg_name (i := 6) sc_all_heights.nd rfl (by first | exact .inl rfl | exact .inr rfl))) (fun _ _ _ _ _ => pts_nil) (fun _ _ _ _ _ => (pe_op (kop_catA K rfl) (pv 5) (pe_tup (pa_cons (pv 6) pa_nil)))))))))
      (pss_one (ps_set (i := 2) sc_all_heights.nd rfl (by first | exact .inl rfl | exact .inr rfl) (pv 4))))))
      (pss_one (ps_ret (pv 2))))), fun ds Pw hl hR => ?_⟩)
  obtain ⟨n, r, rfl, n9, r9, hz, hp⟩ := hR
  refine es_seq <| es_set <| ev_lst <| ea_cons <| ev_tup <| ea_nil ⟨by decide, ea_nil ⟨by simp, ?_⟩⟩
  refine es_seq <| es_for (js := [3]) <| ei_r1 <| ea_cons <| ev_var rfl <| ea_nil ⟨_, rfl, by omega, by omega, fun i ρ' => ∃ x y z u, ρ' = [.da (.int n), .da (.int r), .da (.list ((allH i r).map encI)), x, y, z, u], fun _ _ _ => trivial, ⟨_, _, _, _, rfl⟩, ?_, ?_⟩
  · rintro i d ρ' hd ⟨x, y, z, u, rfl⟩
    have hi : i < n := by
      have := (List.getElem?_eq_some_iff.mp hd).1
      rw [rngD_len] at this
      omega
    have hl : (allH i r).length ≤ 3000 := by
      rw [allH_len]
      exact Nat.le_trans (Nat.pow_le_pow_right (by omega) (by omega)) hz
    refine g_name <| es_seq <| es_set <| ev_lst <| ea_nil ⟨by decide, ?_⟩
    refine es_seq <| es_for (js := [5]) <| ei_list <| ev_var rfl ⟨_, rfl, fun j ρ' => ∃ x y z, ρ' = [.da (.int n), .da (.int r), .da (.list ((allH i r).map encI)), x, .da (.list ((((allH i r).take j).flatMap fun one => (List.range (r + 1)).map fun (h : Nat) => one ++ [(h : Int)]).map encI)), y, z], fun _ _ _ => trivial, ⟨_, _, _, rfl⟩, ?_, ?_⟩
    · rintro j d' ρ' hd' ⟨x', y', z', rfl⟩
      rw [List.getElem?_map] at hd'
      cases he : (allH i r)[j]? with
      | none => rw [he] at hd'; cases hd'
      | some one =>
        rw [he] at hd'
        cases hd'
        have I := mem_allH.mp (List.mem_of_getElem? he)
        have hlen := I.len
        refine g_name <| es_set <| ev_op <| ev_var rfl <| ev_lcP (α := Nat) (js := [6]) (by decide) <| ei_r1 <| ea_cons <| ev_op <| ev_var rfl <| ev_int <| rd_i <| ea_nil ⟨_, rfl, by omega, by omega, List.range (r + 1), iN, fun _ => true, fun h => encI (one ++ [(h : Int)]), trivial, ?_, by rw [List.length_range]; omega, ?_, ?_⟩
        · rw [show (r : Int) + 1 = ((r + 1 : Nat) : Int) by omega, Int.toNat_natCast]
          exact map_range_rng _
        · intro k hk
          refine g_name <| et_yes ⟨rfl, Br.t <| ev_op <| ev_var rfl <| ev_tup <| ea_cons <| ev_var rfl <| ea_nil ⟨by simp, ?_⟩⟩
          refine rd_catT (by simp [hlen]; omega) ⟨?_, rfl⟩
          show PyData.tuple _ = PyData.tuple ((one ++ [(k : Int)]).map PyData.int)
          rw [List.map_append]
          rfl
        · rw [filter_true]
          have hl2 : ((allH i r).take j).length ≤ 3000 := by rw [List.length_take]; omega
          refine rd_cat ?_ ⟨x', .da (encI one), .un, ?_⟩
          · rw [List.length_map, flat_len, List.length_map, List.length_range]
            have : ((allH i r).take j).length * (r + 1) ≤ 3000 * 10 := Nat.mul_le_mul hl2 (by omega)
            omega
          · rw [List.take_add_one, he, List.flatMap_append, List.map_append]
            show _ = [_, _, _, _, En.da (.list (_ ++ (List.map encI (List.flatMap _ [one])))), _, _]
            rw [List.flatMap_cons, List.flatMap_nil, List.append_nil, List.map_map]
            rfl
    · rintro ρ' ⟨x', y', z', rfl⟩
      rw [List.length_map, List.take_length]
      exact es_set <| ev_var rfl ⟨_, _, _, _, rfl⟩
  · rintro ρ' ⟨x, y, z, u, rfl⟩
    rw [rngD_len, Int.toNat_natCast]
    exact es_ret <| ev_var rfl hp
structure Tabs (n r : Nat) (E : Edges) : Prop extends Tab n r E where
  few : (r + 1) ^ n ≤ 3000
theorem Tabs.n4 {n r : Nat} {E : Edges} (T : Tabs n r E) : n ≤ 4 := T.web.n4
def comeL (n r : Nat) (E : Edges) (h : List Int) : List (List Int) := (allH n r).filter (comesB E h)
def R_come_in : List PyData → (PyData → Prop) → Prop := fun ds Pw => ∃ (n r : Nat) (E : Edges) (h : List Int), ds = [webD n E, .int r, encI h] ∧ Tabs n r E ∧ h.length = n ∧ Pw (.list ((comeL n r E h).map encI))
theorem w_come_in (B : Bi mg) (D : DefG K mg "come_in" s_come_in) (C_all_heights : Cal P w K mg base 1 "all_heights" ["many", "roof"] (spP K 2 R_all_heights)) (C_comes_in : Cal P w K mg base 2 "comes_in" ["web", "one", "other"] (spP K 3 R_comes_in)) : Cal P w K mg base 3 "come_in" ["web", "roof", "heights"] (spP K 3 R_come_in) := by
  refine mk_cal (k := 2) (N := ["web", "roof", "heights", "other"]) R_come_in D sc_come_in (fun _ _ _ _ _ _ us hl => match us, hl with | [_, _, _], _ => rfl) (fun f cdv A outer s H E hr => ⟨_, (pss_one (ps_ret (pe_lc (own := [("other", 3)]) rfl sc_come_in.nd (kpi_list K rfl (pe_cal (C_all_heights.mono (by decide)) hr (by rfl) (pa_cons (pe_ix (kix_seq K rfl) (pv 0) pe_int (fun _ _ => rfl)) (pa_cons (pv 1) pa_nil)))) (blkOk_by (N := ["web", "roof", "heights", "other"]) (sc := defScope s_come_in) (by decide +kernel)) (fun _ _ _ _ _ => (pg_name (i := 3) sc_come_in.nd rfl (by first | exact .inl rfl | exact .inr rfl))) (fun _ _ _ _ _ => (pts_one (pt_val (pe_cal (C_comes_in.mono (by decide)) hr (by rfl) (pa_cons (pv 0) (pa_cons (pv 2) (pa_cons (pv 3) pa_nil))))))) (fun _ _ _ _ _ => (pv 3))))), fun ds Pw hl hR => ?_⟩)
  obtain ⟨n, r, E, h, rfl, T, hn, hp⟩ := hR
  have n4 := T.n4
  have r9 := T.r9
  refine es_ret <| ev_lcP (α := List Int) (js := [3]) (by decide) <| ei_list <| ev_call <| ea_cons <| ev_op <| ev_var rfl <| ev_int <| rd_ixT rfl <| ea_cons <| ev_var rfl <| ea_nil ⟨rfl, n, r, rfl, by omega, r9, T.few, _, rfl, allH n r, encI, comesB E h, encI, trivial, rfl, by rw [allH_len]; have := T.few; omega, ?_, hp⟩
  intro o ho
  exact g_name <| et_B <| ev_call <| ea_cons <| ev_var rfl <| ea_cons <| ev_var rfl <| ea_cons <| ev_var rfl <| ea_nil ⟨rfl, n, E, h, o, rfl, T.web, hn, (mem_allH.mp ho).len, _, rfl, rfl, fun _ => ev_var rfl ⟨rfl, rfl⟩, fun _ => rfl⟩
theorem max_if (b : Int) : (if b > 0 then b else 0) = max 0 b := by rw [Int.max_def]; split <;> split <;> omega
theorem sum_range_succ (f : Nat → Int) (i : Nat) : ((List.range (i + 1)).map f).sum = ((List.range i).map f).sum + f i := by
  rw [List.range_succ, List.map_append, List.sum_append]
  simp
def R_cost_in : List PyData → (PyData → Prop) → Prop := fun ds Pw => ∃ (n : Nat) (one other : List Int) (p : List (Int × Int)), ds = [encI one, encI other, .tuple (p.map encE)] ∧ one.length = n ∧ other.length = n ∧ IsP n p ∧ Pw (.int (costN p one other n))
theorem w_cost_in (B : Bi mg) (D : DefG K mg "cost_in" s_cost_in) : Cal P w K mg base 1 "cost_in" ["one", "other", "prices"] (spP K 3 R_cost_in) := by
  refine mk_cal (k := 0) (N := ["one", "other", "prices", "found", "place", "height", "up", "down"]) R_cost_in D sc_cost_in (fun _ _ _ _ _ _ us hl => match us, hl with | [_, _, _], _ => rfl) (fun f cdv A outer s H E hr => ⟨_, (pss_cons (ps_set (i := 3) sc_cost_in.nd rfl (by first | exact .inl rfl | exact .inr rfl) pe_int)
      (pss_cons (ps_for PassesOwn.never rfl (pi_enumT (by rfl) B.enumerate (pa_cons (pv 0) pa_nil)) (kpg_tup K rfl (n := 2) rfl (pgs_cons (pg_name (i := 4) sc_cost_in.nd rfl (by first | exact .inl rfl | exact .inr rfl)) (pgs_cons (pg_name (i := 5) sc_cost_in.nd rfl (by first | exact .inl rfl | exact .inr rfl)) pgs_nil))) (pss_cons (ps_asg (pe_ix (kix_seq K rfl) (pv 2) (pv 4) (fun _ _ => rfl)) (kpg_tup K rfl (n := 2) rfl (pgs_cons (pg_name (i := 6) sc_cost_in.nd rfl (by first | exact .inl rfl | exact .inr rfl)) (pgs_cons (pg_name (i := 7) sc_cost_in.nd rfl (by first | exact .inl rfl | exact .inr rfl)) pgs_nil))))
      (pss_one (ps_aug (i := 3) sc_cost_in.nd rfl (by first | exact .inl rfl | exact .inr rfl) (pe_op op_add (pe_op op_mul (pv 6) (pe_callB (call_max2 rfl) (by rfl) B.max (by decide +kernel) (pa_cons pe_int (pa_cons (pe_op op_sub (pe_ix (kix_seq K rfl) (pv 1) (pv 4) (fun _ _ => rfl)) (pv 5)) pa_nil)))) (pe_op op_mul (pv 7) (pe_callB (call_max2 rfl) (by rfl) B.max (by decide +kernel) (pa_cons pe_int (pa_cons (pe_op op_sub (pv 5) (pe_ix (kix_seq K rfl) (pv 1) (pv 4) (fun _ _ => rfl))) pa_nil))))) ip_add))))
      (pss_one (ps_ret (pv 3))))), fun ds Pw hl hR => ?_⟩)
  obtain ⟨n, one, other, p, rfl, h1, h2, I, hp⟩ := hR
  refine es_seq <| es_set <| ev_int ?_
  refine es_seq <| es_for (js := [4, 5]) <| ei_enum <| ea_cons <| ev_var rfl <| ea_nil ⟨_, rfl, fun i ρ' => ∃ x y z u, ρ' = [.da (encI one), .da (encI other), .da (.tuple (p.map encE)), .da (.int (costN p one other i)), x, y, z, u], fun _ _ _ => trivial, ⟨_, _, _, _, rfl⟩, ?_, ?_⟩
  · rintro i d ρ' hd ⟨x, y, z, u, rfl⟩
    rw [enumD_get, List.getElem?_map] at hd
    cases he : one[i]? with
    | none => rw [he] at hd; cases hd
    | some v =>
      rw [he] at hd
      cases hd
      have hi := (List.getElem?_eq_some_iff.mp he).1
      have hv : v = at0 one i := by rw [at0_get hi] at he; cases he; rfl
      subst hv
      have lo := I.lo i (by omega)
      have hi2 := I.hi i (by omega)
      have hpl := I.len
      refine g_tup2 <| g_name <| g_name ?_
      refine es_seq <| es_asg <| ev_op <| ev_var rfl <| ev_var rfl <| rd_ixT (atM (pr_get (by omega))) <| g_tup2 <| g_name <| g_name ?_
      refine es_augI (ev_op <| ev_op <| ev_var rfl <| ev_cb <| ea_cons <| ev_int <| ea_cons <| ev_op <| ev_op <| ev_var rfl <| ev_var rfl <| rd_ixT (atH (by omega)) <| ev_var rfl <| rd_i <| ea_nil <| rc_max2 <| rd_c (.inl ⟨by omega, by omega⟩) <|
        ev_op <| ev_var rfl <| ev_cb <| ea_cons <| ev_int <| ea_cons <| ev_op <| ev_var rfl <| ev_op <| ev_var rfl <| ev_var rfl <| rd_ixT (atH (by omega)) <| rd_i <| ea_nil <| rc_max2 <| rd_c (.inl ⟨by omega, by omega⟩) <| rd_i ⟨_, _, rfl, rfl, .da (iN i), .da (.int (at0 one i)), .da (.int (pr p i).1), .da (.int (pr p i).2), ?_⟩) ⟨_, rfl⟩
      have e : costN p one other (i + 1) = costN p one other i + cost1 p one other i := sum_range_succ _ _
      rw [e]
      unfold cost1
      rw [max_if, max_if]
      rfl
  · rintro ρ' ⟨x, y, z, u, rfl⟩
    rw [enumD_len, List.length_map, h1]
    exact es_ret <| ev_var rfl hp
end
end Lv
/-! Ld5: the five questions of the program. -/
namespace Lv
open PySem PySem.Spec PyProof.Rows L2 Lw
def deedX (x : (Bool ⊕ Int) × Int) : Deed := (match x.1 with | .inl b => b | .inr _ => false, x.2.toNat)
theorem encX_deed {n : Nat} {x : (Bool ⊕ Int) × Int} (h : isDeedB n x = true) : encX x = encD (deedX x) ∧ (deedX x).2 < n := by
  obtain ⟨a, i⟩ := x
  unfold isDeedB at h
  obtain ⟨h1, h2⟩ := Bool.and_eq_true_iff.mp h
  obtain ⟨h3, h4⟩ := Bool.and_eq_true_iff.mp h2
  have g3 : 0 ≤ i := of_decide_eq_true h3
  have g4 : i < n := of_decide_eq_true h4
  clear h3 h4
  cases a with
  | inl b =>
    refine ⟨?_, by show i.toNat < n; omega⟩
    show PyData.tuple [.bool b, .int i] = PyData.tuple [.bool b, .int ((i.toNat : Nat) : Int)]
    rw [Int.toNat_of_nonneg g3]
  | inr k => cases h1
theorem encX_map {n : Nat} : ∀ {xs : List ((Bool ⊕ Int) × Int)}, xs.all (isDeedB n) = true → xs.map encX = (xs.map deedX).map encD
  | [], _ => rfl
  | x :: xs, h => by
    rw [List.all_cons] at h
    obtain ⟨h1, h2⟩ := Bool.and_eq_true_iff.mp h
    rw [List.map_cons, List.map_cons, List.map_cons, encX_map h2, (encX_deed h1).1]
theorem line_run {n : Nat} {E : Edges} {r : Nat} : ∀ (w : List Deed) (h : List Int), (match runW n E r h w with | some z => ∃ pre, lineL n E r h w = pre ++ [z] ∧ pre.length = w.length | none => (lineL n E r h w).length ≤ w.length ∧ 0 < (lineL n E r h w).length)
  | [], h => ⟨[], rfl, rfl⟩
  | d :: w, h => by
    unfold runW lineL
    by_cases hd : d ∈ deedsL n E r h
    · rw [if_pos hd, if_pos hd]
      have ih := line_run (n := n) (E := E) (r := r) w (step h d)
      cases hr : runW n E r (step h d) w with
      | some z =>
        rw [hr] at ih
        obtain ⟨pre, h1, h2⟩ := ih
        exact ⟨h :: pre, by rw [h1]; rfl, by rw [List.length_cons, List.length_cons, h2]⟩
      | none =>
        rw [hr] at ih
        exact ⟨by rw [List.length_cons, List.length_cons]; omega, by rw [List.length_cons]; omega⟩
    · rw [if_neg hd, if_neg hd]
      exact ⟨by rw [List.length_cons, List.length_cons]; simp, by simp⟩
theorem lineL_len {n : Nat} {E : Edges} {r : Nat} : ∀ (w : List Deed) (h : List Int), (lineL n E r h w).length ≤ w.length + 1
  | [], h => Nat.le_refl _
  | d :: w, h => by
    unfold lineL
    split
    · have := lineL_len (n := n) (E := E) (r := r) w (step h d)
      rw [List.length_cons, List.length_cons]
      omega
    · rw [List.length_cons, List.length_cons]
      simp
def nonV : Val → Bool
  | .non => true
  | _ => false
def goodW (n : Nat) (E : Edges) (r : Nat) (one other : List Int) (p : List (Int × Int)) (c : Int) (w : List Deed) : Bool := decide (runW n E r one w = some other) && decide (wcost p w = c)
/-- what shows_cheap answers -/
def showsB (n : Nat) (E : Edges) (r : Nat) (one other : List Int) (p : List (Int × Int)) (c : Int) (v : Val) : Bool := match v with
  | .tup xs => xs.all (isDeedB n) && goodW n E r one other p c (xs.map deedX)
  | _ => false
def softB (E : Edges) (o : List Int) : Bool := (E.filter fun e => decide (1 < (if at0 o e.1 - at0 o e.2 < 0 then -(at0 o e.1 - at0 o e.2) else at0 o e.1 - at0 o e.2))).isEmpty
theorem encI_inj {a b : List Int} (h : encI a = encI b) : a = b := by
  injection h with h
  exact (List.map_inj_right (fun _ _ z => by injection z)).mp h
section
variable {P : Program} {w : World} {K : PySem.W.Frag} {mg : Str → Option Value} {base : Heap}
def R_cheapest : List PyData → (PyData → Prop) → Prop := fun ds Pw => ∃ (n r : Nat) (E : Edges) (one other : List Int) (p : List (Int × Int)), ds = [webD n E, .int r, encI one, encI other, .tuple (p.map encE)] ∧ Tab n r E ∧ IsH n r one ∧ IsH n r other ∧ IsP n p ∧
  Pw (if comesB E one other = true then .int (costN p one other n) else .none)
theorem w_cheapest (B : Bi mg) (D : DefG K mg "cheapest" s_cheapest) (C_comes_in : Cal P w K mg base 2 "comes_in" ["web", "one", "other"] (spP K 3 R_comes_in)) (C_cost_in : Cal P w K mg base 1 "cost_in" ["one", "other", "prices"] (spP K 3 R_cost_in)) (C_need_prices : Cal P w K mg base 2 "need_prices" ["web", "prices"] (spP K 2 R_need_prices)) (C_need_two : Cal P w K mg base 6 "need_two" ["web", "roof", "one", "other"] (spP K 4 R_need_two)) : Cal P w K mg base 7 "cheapest" ["web", "roof", "one", "other", "prices"] (spP K 5 R_cheapest) := by
  refine mk_cal (k := 6) (N := ["web", "roof", "one", "other", "prices"]) R_cheapest D sc_cheapest (fun _ _ _ _ _ _ us hl => match us, hl with | [_, _, _, _, _], _ => rfl) (fun f cdv A outer s H E hr => ⟨_, (pss_cons (ps_expr (pe_cal (C_need_two.mono (by decide)) hr (by rfl) (pa_cons (pv 0) (pa_cons (pv 1) (pa_cons (pv 2) (pa_cons (pv 3) pa_nil))))))
      (pss_cons (ps_expr (pe_cal (C_need_prices.mono (by decide)) hr (by rfl) (pa_cons (pv 0) (pa_cons (pv 4) pa_nil))))
      (pss_one (ps_ret (pe_ifExp (pt_val (pe_cal (C_comes_in.mono (by decide)) hr (by rfl) (pa_cons (pv 0) (pa_cons (pv 2) (pa_cons (pv 3) pa_nil))))) (pe_cal (C_cost_in.mono (by decide)) hr (by rfl) (pa_cons (pv 2) (pa_cons (pv 3) (pa_cons (pv 4) pa_nil)))) pe_non))))), fun ds Pw hl hR => ?_⟩)
  obtain ⟨n, r, E, one, other, p, rfl, T, I1, I2, I, hp⟩ := hR
  refine es_seq <| es_drop <| ev_call <| ea_cons <| ev_var rfl <| ea_cons <| ev_var rfl <| ea_cons <| ev_var rfl <| ea_cons <| ev_var rfl <| ea_nil ⟨rfl, n, E, r, one, other, rfl, T, I1, I2, ?_⟩
  refine es_seq <| es_drop <| ev_call <| ea_cons <| ev_var rfl <| ea_cons <| ev_var rfl <| ea_nil ⟨rfl, n, E, p, rfl, I, ?_⟩
  refine es_ret <| ev_if <| et_B <| ev_call <| ea_cons <| ev_var rfl <| ea_cons <| ev_var rfl <| ea_cons <| ev_var rfl <| ea_nil ⟨rfl, n, E, one, other, rfl, T.web, I1.len, I2.len, _, rfl, fun e => ?_, fun e => ?_⟩
  · refine ev_call <| ea_cons <| ev_var rfl <| ea_cons <| ev_var rfl <| ea_cons <| ev_var rfl <| ea_nil ⟨rfl, n, one, other, p, rfl, I1.len, I2.len, I, ?_⟩
    rw [if_pos e] at hp
    exact hp
  · rw [if_neg (by rw [e]; exact Bool.false_ne_true)] at hp
    exact ev_non hp
theorem comes_self {E : Edges} (h : List Int) : comesB E h h = true := by
  unfold comesB
  rw [List.all_eq_true]
  intro e _
  rw [decide_eq_false (by omega), decide_eq_false (by omega)]
  rfl
theorem mem_comeL {n r : Nat} {E : Edges} {h o : List Int} : o ∈ comeL n r E h ↔ IsH n r o ∧ comesB E h o = true := by
  unfold comeL
  rw [List.mem_filter, mem_allH]
theorem comeL_len {n r : Nat} {E : Edges} {h : List Int} (T : Tabs n r E) : (comeL n r E h).length ≤ 3000 := by
  have := filter_len (xs := allH n r) (c := comesB E h)
  rw [allH_len] at this
  exact Nat.le_trans this T.few
def dearL (n r : Nat) (E : Edges) (one : List Int) (p : List (Int × Int)) : List CH := (comeL n r E one).map fun o => (-(costN p one o n), o)
def R_dearest : List PyData → (PyData → Prop) → Prop := fun ds Pw => ∃ (n r : Nat) (E : Edges) (one : List Int) (p : List (Int × Int)), ds = [webD n E, .int r, encI one, .tuple (p.map encE)] ∧ Tabs n r E ∧ IsH n r one ∧ IsP n p ∧
  ∀ m, LeastP (dearL n r E one p) m → Pw (encC (-m.1, m.2))
theorem w_dearest (B : Bi mg) (D : DefG K mg "dearest" s_dearest) (C_come_in : Cal P w K mg base 3 "come_in" ["web", "roof", "heights"] (spP K 3 R_come_in)) (C_cost_in : Cal P w K mg base 1 "cost_in" ["one", "other", "prices"] (spP K 3 R_cost_in)) (C_need_listed : Cal P w K mg base 2 "need_listed" ["web", "roof"] (spP K 2 R_need_listed)) (C_need_one : Cal P w K mg base 5 "need_one" ["web", "roof", "heights"] (spP K 3 R_need_one)) (C_need_prices : Cal P w K mg base 2 "need_prices" ["web", "prices"] (spP K 2 R_need_prices)) : Cal P w K mg base 6 "dearest" ["web", "roof", "heights", "prices"] (spP K 4 R_dearest) := by
  refine mk_cal (k := 5) (N := ["web", "roof", "heights", "prices", "best", "one"]) R_dearest D sc_dearest (fun _ _ _ _ _ _ us hl => match us, hl with | [_, _, _, _], _ => rfl) (fun f cdv A outer s H E hr => ⟨_, (pss_cons (ps_expr (pe_cal (C_need_one.mono (by decide)) hr (by rfl) (pa_cons (pv 0) (pa_cons (pv 1) (pa_cons (pv 2) pa_nil)))))
      (pss_cons (ps_expr (pe_cal (C_need_prices.mono (by decide)) hr (by rfl) (pa_cons (pv 0) (pa_cons (pv 3) pa_nil))))
      (pss_cons (ps_expr (pe_cal (C_need_listed.mono (by decide)) hr (by rfl) (pa_cons (pv 0) (pa_cons (pv 1) pa_nil))))
      (pss_cons (ps_set (i := 4) sc_dearest.nd rfl (by first | exact .inl rfl | exact .inr rfl) (pe_callB (kcr_minD K rfl rfl hr.units) (by rfl) B.min (by decide +kernel) (pa_cons (pe_lc (own := [("one", 5)]) rfl sc_dearest.nd (kpi_list K rfl (pe_cal (C_come_in.mono (by decide)) hr (by rfl) (pa_cons (pv 0) (pa_cons (pv 1) (pa_cons (pv 2) pa_nil))))) (blkOk_by (N := ["web", "roof", "heights", "prices", "best", "one"]) (sc := defScope s_dearest) (by decide +kernel)) (fun _ _ _ _ _ => (pg_name (i := 5) sc_dearest.nd rfl (by first | exact .inl rfl | exact .inr rfl))) (fun _ _ _ _ _ => pts_nil) (fun _ _ _ _ _ => (pe_tup (pa_cons (pe_un un_neg (pe_cal (C_cost_in.mono (by decide)) hr (by rfl) (pa_cons (pv 2) (pa_cons (pv 5) (pa_cons (pv 3) pa_nil))))) (pa_cons (pv 5) pa_nil))))) pa_nil)))
      (pss_one (ps_ret (pe_tup (pa_cons (pe_un un_neg (pe_ix (kix_seq K rfl) (pv 4) pe_int (fun _ _ => rfl))) (pa_cons (pe_ix (kix_seq K rfl) (pv 4) pe_int (fun _ _ => rfl)) pa_nil))))))))), fun ds Pw hl hR => ?_⟩)
  obtain ⟨n, r, E, one, p, rfl, T, I1, I, hp⟩ := hR
  have n4 := T.n4
  have r9 := T.r9
  refine es_seq <| es_drop <| ev_call <| ea_cons <| ev_var rfl <| ea_cons <| ev_var rfl <| ea_cons <| ev_var rfl <| ea_nil ⟨rfl, n, E, r, one, rfl, T.toTab, I1, ?_⟩
  refine es_seq <| es_drop <| ev_call <| ea_cons <| ev_var rfl <| ea_cons <| ev_var rfl <| ea_nil ⟨rfl, n, E, p, rfl, I, ?_⟩
  refine es_seq <| es_drop <| ev_call <| ea_cons <| ev_var rfl <| ea_cons <| ev_var rfl <| ea_nil ⟨rfl, n, E, r, rfl, by omega, r9, T.few, ?_⟩
  refine es_seq <| es_set <| ev_cb <| ea_cons <| ev_lcP (α := List Int) (js := [5]) (by decide) <| ei_list <| ev_call <| ea_cons <| ev_var rfl <| ea_cons <| ev_var rfl <| ea_cons <| ev_var rfl <| ea_nil ⟨rfl, n, r, E, one, rfl, T, I1.len, _, rfl, comeL n r E one, encI, fun _ => true, fun o => encC (-(costN p one o n), o), trivial, rfl, by have := comeL_len (h := one) T; omega, ?_, ?_⟩
  · intro o ho
    have I2 := (mem_comeL.mp ho).1
    exact g_name <| et_yes ⟨rfl, Br.t <| ev_tup <| ea_cons <| ev_un <| ev_call <| ea_cons <| ev_var rfl <| ea_cons <| ev_var rfl <| ea_cons <| ev_var rfl <| ea_nil ⟨rfl, n, one, o, p, rfl, I1.len, I2.len, I, ru_neg <| ea_cons <| ev_var rfl <| ea_nil ⟨by simp, rfl, rfl⟩⟩⟩
  · rw [filter_true]
    have e : (comeL n r E one).map (fun o => encC (-(costN p one o n), o)) = (dearL n r E one p).map encC := by unfold dearL; rw [List.map_map]; rfl
    rw [e]
    refine ea_nil <| rc_minP (fun z => ?_) fun m hm => ?_
    · have hs : one ∈ comeL n r E one := mem_comeL.mpr ⟨I1, comes_self one⟩
      have : (-(costN p one one n), one) ∈ dearL n r E one p := List.mem_map.mpr ⟨one, hs, rfl⟩
      rw [z] at this
      cases this
    · exact es_ret <| ev_tup <| ea_cons <| ev_un <| ev_op <| ev_var rfl <| ev_int <| rd_ixT rfl <| ru_neg <| ea_cons <| ev_op <| ev_var rfl <| ev_int <| rd_ixT rfl <| ea_nil ⟨by simp, hp m hm⟩
def gentL (n r : Nat) (E : Edges) (one : List Int) (p : List (Int × Int)) : List CH := ((comeL n r E one).filter (softB E)).map fun o => (costN p one o n, o)
theorem zeros_in {n r : Nat} {E : Edges} {one : List Int} : List.replicate n (0 : Int) ∈ (comeL n r E one).filter (softB E) := by
  have z : ∀ k, at0 (List.replicate n (0 : Int)) k = 0 := fun k => by
    unfold at0
    rw [List.getD_eq_getElem?_getD, List.getElem?_replicate]
    split <;> rfl
  refine List.mem_filter.mpr ⟨mem_comeL.mpr ⟨⟨List.length_replicate, fun k _ => by rw [z]; exact Int.le_refl _, fun k _ => by rw [z]; omega⟩, ?_⟩, ?_⟩
  · unfold comesB
    have : steepL E (List.replicate n (0 : Int)) = [] := by
      rw [List.eq_nil_iff_forall_not_mem]
      intro e he
      obtain ⟨x, _, e1⟩ := List.mem_filterMap.mp he
      simp only [z] at e1
      simp at e1
    rw [this]
    rfl
  · unfold softB
    rw [List.isEmpty_iff, List.filter_eq_nil_iff]
    intro e _
    simp [z]
def R_cheapest_gentle : List PyData → (PyData → Prop) → Prop := fun ds Pw => ∃ (n r : Nat) (E : Edges) (one : List Int) (p : List (Int × Int)), ds = [webD n E, .int r, encI one, .tuple (p.map encE)] ∧ Tabs n r E ∧ IsH n r one ∧ IsP n p ∧
  ∀ m, LeastP (gentL n r E one p) m → Pw (encC m)
theorem w_cheapest_gentle (B : Bi mg) (D : DefG K mg "cheapest_gentle" s_cheapest_gentle) (C_come_in : Cal P w K mg base 3 "come_in" ["web", "roof", "heights"] (spP K 3 R_come_in)) (C_cost_in : Cal P w K mg base 1 "cost_in" ["one", "other", "prices"] (spP K 3 R_cost_in)) (C_need_listed : Cal P w K mg base 2 "need_listed" ["web", "roof"] (spP K 2 R_need_listed)) (C_need_one : Cal P w K mg base 5 "need_one" ["web", "roof", "heights"] (spP K 3 R_need_one)) (C_need_prices : Cal P w K mg base 2 "need_prices" ["web", "prices"] (spP K 2 R_need_prices)) : Cal P w K mg base 6 "cheapest_gentle" ["web", "roof", "heights", "prices"] (spP K 4 R_cheapest_gentle) := by
  refine mk_cal (k := 5) (N := ["web", "roof", "heights", "prices", "some", "soft", "one", "edge"]) R_cheapest_gentle D sc_cheapest_gentle (fun _ _ _ _ _ _ us hl => match us, hl with | [_, _, _, _], _ => rfl) (fun f cdv A outer s H E hr => ⟨_, (pss_cons (ps_expr (pe_cal (C_need_one.mono (by decide)) hr (by rfl) (pa_cons (pv 0) (pa_cons (pv 1) (pa_cons (pv 2) pa_nil)))))
      (pss_cons (ps_expr (pe_cal (C_need_prices.mono (by decide)) hr (by rfl) (pa_cons (pv 0) (pa_cons (pv 3) pa_nil))))
      (pss_cons (ps_expr (pe_cal (C_need_listed.mono (by decide)) hr (by rfl) (pa_cons (pv 0) (pa_cons (pv 1) pa_nil))))
      (pss_cons (ps_set (i := 4) sc_cheapest_gentle.nd rfl (by first | exact .inl rfl | exact .inr rfl) (pe_cal (C_come_in.mono (by decide)) hr (by rfl) (pa_cons (pv 0) (pa_cons (pv 1) (pa_cons (pv 2) pa_nil)))))
      (pss_cons (ps_setLc (i := 5) (own := [("one", 6)]) rfl sc_cheapest_gentle.nd rfl rfl rfl (kpi_list K rfl (pv 4)) (blkOk_by (N := ["web", "roof", "heights", "prices", "some", "soft", "one", "edge"]) (sc := defScope s_cheapest_gentle) (by decide +kernel)) (fun _ _ _ _ _ => (pg_name (i := 6) sc_cheapest_gentle.nd rfl (by first | exact .inl rfl | exact .inr rfl))) (fun _ _ _ _ _ => (pts_one (pt_cmpR (kop_eqD K rfl hr.units) (pe_lc (own := [("edge", 7)]) rfl sc_cheapest_gentle.nd (kpi_tup K rfl (pe_ix (kix_seq K rfl) (pv 0) pe_int (fun _ _ => rfl))) (blkOk_by (N := ["web", "roof", "heights", "prices", "some", "soft", "one", "edge"]) (sc := relS _ (defScope s_cheapest_gentle)) (by decide +kernel)) (fun _ _ _ _ _ => (pg_name (i := 7) sc_cheapest_gentle.nd rfl (by first | exact .inl rfl | exact .inr rfl))) (fun _ _ _ _ _ => (pts_one (pt_cmpR op_gt (pe_callB call_abs (by rfl) B.abs (by decide +kernel) (pa_cons (pe_op op_sub (pe_ix (kix_seq K rfl) (pv 6) (pe_ix (kix_seq K rfl) (pv 7) pe_int (fun _ _ => rfl)) (fun _ _ => rfl)) (pe_ix (kix_seq K rfl) (pv 6) (pe_ix (kix_seq K rfl) (pv 7) pe_int (fun _ _ => rfl)) (fun _ _ => rfl))) pa_nil)) pe_int (nomark _)))) (fun _ _ _ _ _ => (pv 7))) (pe_lst pa_nil) (nomark _)))) (fun _ _ _ _ _ => (pv 6)))
      (pss_one (ps_ret (pe_callB (kcr_minD K rfl rfl hr.units) (by rfl) B.min (by decide +kernel) (pa_cons (pe_lc (own := [("one", 6)]) rfl sc_cheapest_gentle.nd (kpi_list K rfl (pv 5)) (blkOk_by (N := ["web", "roof", "heights", "prices", "some", "soft", "one", "edge"]) (sc := defScope s_cheapest_gentle) (by decide +kernel)) (fun _ _ _ _ _ => (pg_name (i := 6) sc_cheapest_gentle.nd rfl (by first | exact .inl rfl | exact .inr rfl))) (fun _ _ _ _ _ => pts_nil) (fun _ _ _ _ _ => (pe_tup (pa_cons (pe_cal (C_cost_in.mono (by decide)) hr (by rfl) (pa_cons (pv 2) (pa_cons (pv 6) (pa_cons (pv 3) pa_nil)))) (pa_cons (pv 6) pa_nil))))) pa_nil))))))))), fun ds Pw hl hR => ?_⟩)
  obtain ⟨n, r, E, one, p, rfl, T, I1, I, hp⟩ := hR
  have n4 := T.n4
  have r9 := T.r9
  have W := T.web
  have cl := comeL_len (h := one) T
  refine es_seq <| es_drop <| ev_call <| ea_cons <| ev_var rfl <| ea_cons <| ev_var rfl <| ea_cons <| ev_var rfl <| ea_nil ⟨rfl, n, E, r, one, rfl, T.toTab, I1, ?_⟩
  refine es_seq <| es_drop <| ev_call <| ea_cons <| ev_var rfl <| ea_cons <| ev_var rfl <| ea_nil ⟨rfl, n, E, p, rfl, I, ?_⟩
  refine es_seq <| es_drop <| ev_call <| ea_cons <| ev_var rfl <| ea_cons <| ev_var rfl <| ea_nil ⟨rfl, n, E, r, rfl, by omega, r9, T.few, ?_⟩
  refine es_seq <| es_set <| ev_call <| ea_cons <| ev_var rfl <| ea_cons <| ev_var rfl <| ea_cons <| ev_var rfl <| ea_nil ⟨rfl, n, r, E, one, rfl, T, I1.len, ?_⟩
  refine es_seq <| es_set <| ev_lcP (α := List Int) (js := [6]) (by decide) <| ei_list <| ev_var rfl ⟨_, rfl, comeL n r E one, encI, softB E, encI, trivial, rfl, by omega, ?_, ?_⟩
  · intro o ho
    have I2 := (mem_comeL.mp ho).1
    have ol := I2.len
    refine g_name <| et_test <| ev_op <| ev_lcP (α := Nat × Nat) (js := [7]) (by decide) <| ei_tup <| ev_op <| ev_var rfl <| ev_int <| rd_ixT rfl ⟨_, rfl, E, eN, fun e => decide (1 < (if at0 o e.1 - at0 o e.2 < 0 then -(at0 o e.1 - at0 o e.2) else at0 o e.1 - at0 o e.2)), eN, trivial, rfl, by have := W.len; omega, ?_, ?_⟩
    · intro e he
      have hm := W.ok e he
      exact g_name <| et_test <| ev_op <| ev_cb <| ea_cons <| ev_op <| ev_op <| ev_var rfl <| ev_op <| ev_var rfl <| ev_int <| rd_ixT rfl <| rd_ixT (atH (by omega)) <| ev_op <| ev_var rfl <| ev_op <| ev_var rfl <| ev_int <| rd_ixT rfl <| rd_ixT (atH (by omega)) <| rd_i <| ea_nil <| rc_abs <| ev_int <| rd_b ⟨_, rfl, rfl, fun _ => ev_var rfl ⟨rfl, rfl⟩, fun _ => rfl⟩
    · refine ev_lst <| ea_nil ⟨by decide, ?_⟩
      refine rd_eq (okM fun _ => Sh.eN) okNil ⟨_, rfl, ?_, fun _ => ev_var rfl ⟨rfl, rfl⟩, fun _ => rfl⟩
      rw [eqv_mapNil]
      rfl
  · have sl := filter_len (xs := comeL n r E one) (c := softB E)
    refine es_ret <| ev_cb <| ea_cons <| ev_lcP (α := List Int) (js := [6]) (by decide) <| ei_list <| ev_var rfl ⟨_, rfl, (comeL n r E one).filter (softB E), encI, fun _ => true, fun o => encC (costN p one o n, o), trivial, rfl, by omega, ?_, ?_⟩
    · intro o ho
      have I2 := (mem_comeL.mp (List.mem_filter.mp ho).1).1
      exact g_name <| et_yes ⟨rfl, Br.t <| ev_tup <| ea_cons <| ev_call <| ea_cons <| ev_var rfl <| ea_cons <| ev_var rfl <| ea_cons <| ev_var rfl <| ea_nil ⟨rfl, n, one, o, p, rfl, I1.len, I2.len, I, ea_cons <| ev_var rfl <| ea_nil ⟨by simp, rfl, rfl⟩⟩⟩
    · rw [filter_true]
      have e : ((comeL n r E one).filter (softB E)).map (fun o => encC (costN p one o n, o)) = (gentL n r E one p).map encC := by unfold gentL; rw [List.map_map]; rfl
      rw [e]
      refine ea_nil <| rc_minP (fun z => ?_) hp
      have : (costN p one (List.replicate n 0) n, List.replicate n 0) ∈ gentL n r E one p := List.mem_map.mpr ⟨_, zeros_in, rfl⟩
      rw [z] at this
      cases this
def R_within : List PyData → (PyData → Prop) → Prop := fun ds Pw => ∃ (n r : Nat) (E : Edges) (one : List Int) (p : List (Int × Int)) (most : Int), ds = [webD n E, .int r, encI one, .tuple (p.map encE), .int most] ∧ Tabs n r E ∧ IsH n r one ∧ IsP n p ∧
  0 ≤ most ∧ most ≤ 1000 * r * n ∧ Pw (.int (((comeL n r E one).filter fun o => decide (costN p one o n ≤ most)).length : Nat))
theorem w_within (B : Bi mg) (D : DefG K mg "within" s_within) (C_come_in : Cal P w K mg base 3 "come_in" ["web", "roof", "heights"] (spP K 3 R_come_in)) (C_cost_in : Cal P w K mg base 1 "cost_in" ["one", "other", "prices"] (spP K 3 R_cost_in)) (C_is_in : Cal P w K mg base 1 "is_in" ["value", "least", "most"] (spP K 3 R_is_in)) (C_need_listed : Cal P w K mg base 2 "need_listed" ["web", "roof"] (spP K 2 R_need_listed)) (C_need_one : Cal P w K mg base 5 "need_one" ["web", "roof", "heights"] (spP K 3 R_need_one)) (C_need_prices : Cal P w K mg base 2 "need_prices" ["web", "prices"] (spP K 2 R_need_prices)) : Cal P w K mg base 6 "within" ["web", "roof", "heights", "prices", "most"] (spP K 5 R_within) := by
  refine mk_cal (k := 5) (N := ["web", "roof", "heights", "prices", "most", "one"]) R_within D sc_within (fun _ _ _ _ _ _ us hl => match us, hl with | [_, _, _, _, _], _ => rfl) (fun f cdv A outer s H E hr => ⟨_, (pss_cons (ps_expr (pe_cal (C_need_one.mono (by decide)) hr (by rfl) (pa_cons (pv 0) (pa_cons (pv 1) (pa_cons (pv 2) pa_nil)))))
      (pss_cons (ps_expr (pe_cal (C_need_prices.mono (by decide)) hr (by rfl) (pa_cons (pv 0) (pa_cons (pv 3) pa_nil))))
      (pss_cons (ps_if (pt_not (pt_val (pe_cal (C_is_in.mono (by decide)) hr (by rfl) (pa_cons (pv 4) (pa_cons pe_int (pa_cons (pe_op op_mul (pe_op op_mul (pe_glob (v := .int 1000) (by rfl) (B.MOST_PRICE).choose_spec ⟨_, rfl⟩) (pv 1)) (pe_ix (kix_seq K rfl) (pv 0) pe_int (fun _ _ => rfl))) pa_nil)))))) pss_never pss_nil)
      (pss_cons (ps_expr (pe_cal (C_need_listed.mono (by decide)) hr (by rfl) (pa_cons (pv 0) (pa_cons (pv 1) pa_nil))))
      (pss_one (ps_ret (pe_callB (kcall_len K rfl) (by rfl) B.len (by decide +kernel) (pa_cons (pe_lc (own := [("one", 5)]) rfl sc_within.nd (kpi_list K rfl (pe_cal (C_come_in.mono (by decide)) hr (by rfl) (pa_cons (pv 0) (pa_cons (pv 1) (pa_cons (pv 2) pa_nil))))) (blkOk_by (N := ["web", "roof", "heights", "prices", "most", "one"]) (sc := defScope s_within) (by decide +kernel)) (fun _ _ _ _ _ => (pg_name (i := 5) sc_within.nd rfl (by first | exact .inl rfl | exact .inr rfl))) (fun _ _ _ _ _ => (pts_one (pt_cmpR op_le (pe_cal (C_cost_in.mono (by decide)) hr (by rfl) (pa_cons (pv 2) (pa_cons (pv 5) (pa_cons (pv 3) pa_nil)))) (pv 4) (nomark _)))) (fun _ _ _ _ _ => (pv 5))) pa_nil)))))))), fun ds Pw hl hR => ?_⟩)
  obtain ⟨n, r, E, one, p, most, rfl, T, I1, I, m0, m1, hp⟩ := hR
  have n4 := T.n4
  have r9 := T.r9
  have cl := comeL_len (h := one) T
  refine es_seq <| es_drop <| ev_call <| ea_cons <| ev_var rfl <| ea_cons <| ev_var rfl <| ea_cons <| ev_var rfl <| ea_nil ⟨rfl, n, E, r, one, rfl, T.toTab, I1, ?_⟩
  refine es_seq <| es_drop <| ev_call <| ea_cons <| ev_var rfl <| ea_cons <| ev_var rfl <| ea_nil ⟨rfl, n, E, p, rfl, I, ?_⟩
  refine es_seq <| es_if <| et_not <| et_B <| ev_call <| ea_cons <| ev_var rfl <| ea_cons <| ev_int <| ea_cons <| ev_op <| ev_op <| ev_int <| ev_var rfl <| rd_c (.inl ⟨by decide, by decide⟩) <| ev_op <| ev_var rfl <| ev_int <| rd_ixT rfl <| rd_c (.inr ⟨by omega, by omega⟩) <| ea_nil ⟨rfl, _, _, _, rfl, ?_⟩
  rw [isIn_int ⟨m0, m1⟩]
  refine ⟨_, rfl, Br.f <| es_next ?_⟩
  refine es_seq <| es_drop <| ev_call <| ea_cons <| ev_var rfl <| ea_cons <| ev_var rfl <| ea_nil ⟨rfl, n, E, r, rfl, by omega, r9, T.few, ?_⟩
  refine es_ret <| ev_cb <| ea_cons <| ev_lcP (α := List Int) (js := [5]) (by decide) <| ei_list <| ev_call <| ea_cons <| ev_var rfl <| ea_cons <| ev_var rfl <| ea_cons <| ev_var rfl <| ea_nil ⟨rfl, n, r, E, one, rfl, T, I1.len, _, rfl, comeL n r E one, encI, fun o => decide (costN p one o n ≤ most), encI, trivial, rfl, by omega, ?_, ?_⟩
  · intro o ho
    have I2 := (mem_comeL.mp ho).1
    exact g_name <| et_test <| ev_op <| ev_call <| ea_cons <| ev_var rfl <| ea_cons <| ev_var rfl <| ea_cons <| ev_var rfl <| ea_nil ⟨rfl, n, one, o, p, rfl, I1.len, I2.len, I, ev_var rfl <| rd_b ⟨_, rfl, rfl, fun _ => ev_var rfl ⟨rfl, rfl⟩, fun _ => rfl⟩⟩
  · refine ea_nil <| rc_lenL ?_
    rw [List.length_map]
    exact hp
def R_shows_cheap : List PyData → (PyData → Prop) → Prop := fun ds Pw => ∃ (n r : Nat) (E : Edges) (one other : List Int) (p : List (Int × Int)) (v : Val), ds = [webD n E, .int r, encI one, encI other, .tuple (p.map encE), encV v] ∧ Tab n r E ∧ IsH n r one ∧ IsH n r other ∧ IsP n p ∧ vLen v ≤ 200 ∧
  Pw (.bool (if comesB E one other = true then showsB n E r one other p (costN p one other n) v else nonV v))
theorem nonB_encV (v : Val) : nonB (encV v) = nonV v := by cases v <;> rfl
theorem w_shows_cheap (B : Bi mg) (D : DefG K mg "shows_cheap" s_shows_cheap) (C_comes_in : Cal P w K mg base 2 "comes_in" ["web", "one", "other"] (spP K 3 R_comes_in)) (C_cost_in : Cal P w K mg base 1 "cost_in" ["one", "other", "prices"] (spP K 3 R_cost_in)) (C_is_deeds : Cal P w K mg base 3 "is_deeds" ["web", "value"] (spP K 2 R_is_deeds)) (C_line_in : Cal P w K mg base 4 "line_in" ["web", "roof", "heights", "word"] (spP K 4 R_line_in)) (C_need_prices : Cal P w K mg base 2 "need_prices" ["web", "prices"] (spP K 2 R_need_prices)) (C_need_two : Cal P w K mg base 6 "need_two" ["web", "roof", "one", "other"] (spP K 4 R_need_two)) : Cal P w K mg base 7 "shows_cheap" ["web", "roof", "one", "other", "prices", "value"] (spP K 6 R_shows_cheap) := by
  refine mk_cal (k := 6) (N := ["web", "roof", "one", "other", "prices", "value", "there", "up", "place"]) R_shows_cheap D sc_shows_cheap (fun _ _ _ _ _ _ us hl => match us, hl with | [_, _, _, _, _, _], _ => rfl) (fun f cdv A outer s H E hr => ⟨_, (pss_cons (ps_expr (pe_cal (C_need_two.mono (by decide)) hr (by rfl) (pa_cons (pv 0) (pa_cons (pv 1) (pa_cons (pv 2) (pa_cons (pv 3) pa_nil))))))
      (pss_cons (ps_expr (pe_cal (C_need_prices.mono (by decide)) hr (by rfl) (pa_cons (pv 0) (pa_cons (pv 4) pa_nil))))
      (pss_cons (ps_if (pt_not (pt_val (pe_cal (C_comes_in.mono (by decide)) hr (by rfl) (pa_cons (pv 0) (pa_cons (pv 2) (pa_cons (pv 3) pa_nil)))))) (pss_one (ps_ret (pe_cmpR op_isN (pv 5) pe_non (nomark _)))) pss_nil)
      (pss_cons (ps_if (pt_not (pt_val (pe_cal (C_is_deeds.mono (by decide)) hr (by rfl) (pa_cons (pv 0) (pa_cons (pv 5) pa_nil))))) (pss_one (ps_ret pe_bl)) pss_nil)
      (pss_cons (ps_set (i := 6) sc_shows_cheap.nd rfl (by first | exact .inl rfl | exact .inr rfl) (pe_cal (C_line_in.mono (by decide)) hr (by rfl) (pa_cons (pv 0) (pa_cons (pv 1) (pa_cons (pv 2) (pa_cons (pv 5) pa_nil))))))
      (pss_cons (ps_if (PW.pt (pw_or (pt_cmpR op_le (pe_callB (kcall_len K rfl) (by rfl) B.len (by decide +kernel) (pa_cons (pv 6) pa_nil)) (pe_callB (kcall_len K rfl) (by rfl) B.len (by decide +kernel) (pa_cons (pv 5) pa_nil)) (nomark _)) (pw_or1 (pt_cmpR (kop_neD K rfl hr.units) (pe_ix (kix_seq K rfl) (pv 6) (pe_un un_neg pe_int) (fun _ _ => rfl)) (pv 3) (nomark _))))) (pss_one (ps_ret pe_bl)) pss_nil)
      (pss_one (ps_ret (pe_cmpR (kop_eqD K rfl hr.units) (pe_callB (kcr_sum K rfl rfl) (by rfl) B.sum (by decide +kernel) (pa_cons (pe_lc (own := [("up", 7), ("place", 8)]) rfl sc_shows_cheap.nd (kpi_tup K rfl (pv 5)) (blkOk_by (N := ["web", "roof", "one", "other", "prices", "value", "there", "up", "place"]) (sc := defScope s_shows_cheap) (by decide +kernel)) (fun _ _ _ _ _ => (kpg_tup K rfl (n := 2) rfl (pgs_cons (pg_name (i := 7) sc_shows_cheap.nd rfl (by first | exact .inl rfl | exact .inr rfl)) (pgs_cons (pg_name (i := 8) sc_shows_cheap.nd rfl (by first | exact .inl rfl | exact .inr rfl)) pgs_nil)))) (fun _ _ _ _ _ => pts_nil) (fun _ _ _ _ _ => (pe_ix (kix_seq K rfl) (pe_ix (kix_seq K rfl) (pv 4) (pv 8) (fun _ _ => rfl)) (pe_callTy call_int1 (by rfl) B.int (by decide +kernel) (pa_cons (pe_not (pv 7)) pa_nil)) (fun _ _ => rfl)))) pa_nil)) (pe_cal (C_cost_in.mono (by decide)) hr (by rfl) (pa_cons (pv 2) (pa_cons (pv 3) (pa_cons (pv 4) pa_nil)))) (nomark _)))))))))), fun ds Pw hl hR => ?_⟩)
  obtain ⟨n, r, E, one, other, p, v, rfl, T, I1, I2, I, hv, hp⟩ := hR
  have n4 := T.web.n4
  refine es_seq <| es_drop <| ev_call <| ea_cons <| ev_var rfl <| ea_cons <| ev_var rfl <| ea_cons <| ev_var rfl <| ea_cons <| ev_var rfl <| ea_nil ⟨rfl, n, E, r, one, other, rfl, T, I1, I2, ?_⟩
  refine es_seq <| es_drop <| ev_call <| ea_cons <| ev_var rfl <| ea_cons <| ev_var rfl <| ea_nil ⟨rfl, n, E, p, rfl, I, ?_⟩
  refine es_seq <| es_if <| et_not <| et_B <| ev_call <| ea_cons <| ev_var rfl <| ea_cons <| ev_var rfl <| ea_cons <| ev_var rfl <| ea_nil ⟨rfl, n, E, one, other, rfl, T.web, I1.len, I2.len, _, rfl, fun e => ?_, fun e => ?_⟩
  · have e : comesB E one other = false := by revert e; cases comesB E one other <;> simp
    rw [if_neg (by rw [e]; exact Bool.false_ne_true), ← nonB_encV] at hp
    exact es_ret <| ev_op <| ev_var rfl <| ev_non <| rd_isN hp
  have e : comesB E one other = true := by revert e; cases comesB E one other <;> simp
  rw [if_pos e] at hp
  refine es_next <| es_seq <| es_if <| et_not <| et_B <| ev_call <| ea_cons <| ev_var rfl <| ea_cons <| ev_var rfl <| ea_nil ⟨rfl, n, E, v, rfl, hv, _, rfl, fun e2 => ?_, fun e2 => ?_⟩
  · have e2 : isDeedsB n v = false := by revert e2; cases isDeedsB n v <;> simp
    refine es_ret <| ev_bl ?_
    have : showsB n E r one other p (costN p one other n) v = false := by
      cases v with
      | tup xs =>
        show (xs.all (isDeedB n) && _) = false
        have e2 : xs.all (isDeedB n) = false := e2
        rw [e2]
        rfl
      | _ => rfl
    rw [this] at hp
    exact hp
  have e2 : isDeedsB n v = true := by revert e2; cases isDeedsB n v <;> simp
  cases v with
  | tup xs =>
    have e2 : xs.all (isDeedB n) = true := e2
    have hv : xs.length ≤ 200 := hv
    have e3 : showsB n E r one other p (costN p one other n) (.tup xs) = goodW n E r one other p (costN p one other n) (xs.map deedX) := by
      show (xs.all (isDeedB n) && _) = _
      rw [e2, Bool.true_and]
    rw [e3] at hp
    have e4 : encV (.tup xs) = .tuple ((xs.map deedX).map encD) := by
      show PyData.tuple (xs.map encX) = _
      rw [encX_map e2]
    rw [e4]
    have hd : ∀ d ∈ xs.map deedX, d.2 < n := fun d hd => by
      obtain ⟨x, hx, rfl⟩ := List.mem_map.mp hd
      exact (encX_deed (List.all_eq_true.mp e2 x hx)).2
    have hlen : (xs.map deedX).length ≤ 200 := by rw [List.length_map]; exact hv
    revert hp hd hlen
    generalize xs.map deedX = ws
    intro hp hd hlen
    refine es_next <| es_seq <| es_set <| ev_call <| ea_cons <| ev_var rfl <| ea_cons <| ev_var rfl <| ea_cons <| ev_var rfl <| ea_cons <| ev_var rfl <| ea_nil ⟨rfl, n, E, r, one, ws, rfl, T.web, I1.len, by omega, ?_⟩
    have lr := line_run (n := n) (E := E) (r := r) ws one
    have ll := lineL_len (n := n) (E := E) (r := r) ws one
    refine es_seq <| es_if <| et_or <| et_test <| ev_op <| ev_cb <| ea_cons <| ev_var rfl <| ea_nil <| rc_lenL <| ev_cb <| ea_cons <| ev_var rfl <| ea_nil <| rc_lenT <| rd_b ⟨_, rfl, ?_⟩
    rw [List.length_map, List.length_map]
    unfold goodW at hp
    cases hr : runW n E r one ws with
    | none =>
      rw [hr] at lr hp
      rw [decide_eq_true (by omega)]
      refine Br.t <| Br.t ?_
      refine es_ret <| ev_bl ?_
      exact hp
    | some z =>
      rw [hr] at lr hp
      obtain ⟨pre, l1, l2⟩ := lr
      have l3 := congrArg List.length l1
      rw [List.length_append, List.length_singleton] at l3
      rw [decide_eq_false (by omega)]
      have last : atI ((lineL n E r one ws).map encI) (-1) = some (encI z) := by rw [l1, List.map_append]; exact atI_last _ _
      refine Br.f <| et_test <| ev_op <| ev_op <| ev_var rfl <| ev_un <| ev_int <| ru_neg <| rd_ixL last <| ev_var rfl <| rd_ne okE okE ⟨_, rfl, ?_⟩
      rw [eqv_encI]
      by_cases hz : z = other
      · subst hz
        rw [decide_eq_true rfl]
        rw [decide_eq_true rfl, Bool.true_and] at hp
        refine Br.f <| es_next <| es_ret <| ev_op <| ev_cb <| ea_cons <| ev_lcP (α := Deed) (js := [7, 8]) (by decide) <| ei_tup <| ev_var rfl ⟨_, rfl, ws, encD, fun _ => true, fun d => .int (dcost p d), trivial, rfl, by omega, ?_, ?_⟩
        · intro d hdm
          have hdn := hd d hdm
          have pl := I.len
          refine g_tup2 <| g_name <| g_name <| et_yes ⟨rfl, Br.t <| ev_op <| ev_op <| ev_var rfl <| ev_var rfl <| rd_ixT (atM (pr_get (by omega))) <| ev_cb <| ea_cons <| ev_notV <| ev_var rfl ⟨_, rfl, ea_nil <| rc_intB <| rd_ixT (d := .int (dcost p d)) ?_ ⟨rfl, rfl⟩⟩⟩
          unfold dcost
          cases d.1 <;> rfl
        · rw [filter_true]
          have e5 : ws.map (fun d => PyData.int (dcost p d)) = (ws.map (dcost p)).map PyData.int := by rw [List.map_map]; rfl
          rw [e5]
          refine ea_nil <| rc_sum <| ev_call <| ea_cons <| ev_var rfl <| ea_cons <| ev_var rfl <| ea_cons <| ev_var rfl <| ea_nil ⟨rfl, n, one, z, p, rfl, I1.len, I2.len, I, rd_eq okI okI ?_⟩
          rw [eqv_int]
          exact hp
      · rw [decide_eq_false hz]
        refine Br.t ?_
        refine es_ret <| ev_bl ?_
        have : decide (some z = some other) = false := decide_eq_false fun q => hz (Option.some.inj q)
        rw [this] at hp
        exact hp
  | _ => cases e2
end
end Lv
/-! Lm2: what deeds do: the heights stay heights, something can always be done; what comes in by deeds; what it costs. -/
namespace Lv
open PySem PySem.Spec PyProof.Rows L2 Lw
variable {n r : Nat} {E : Edges} {h one other : List Int} {p : List (Int × Int)} {d : Deed} {k j : Nat}
theorem all_adj {f : Nat → Bool} : ((List.range n).all fun j => !decide (Adj E j k) || f j) = true ↔ ∀ j < n, Adj E j k → f j = true := by
  rw [List.all_eq_true]
  constructor
  · intro H j hj ha
    have := H j (List.mem_range.mpr hj)
    rw [decide_eq_true ha] at this
    exact this
  · intro H j hj
    by_cases ha : Adj E j k
    · rw [H j (List.mem_range.mp hj) ha, Bool.or_true]
    · rw [decide_eq_false ha]
      rfl
theorem up_iff : (true, k) ∈ deedsL n E r h ↔ k < n ∧ at0 h k < r ∧ ∀ j < n, Adj E j k → at0 h k ≤ at0 h j := by
  unfold deedsL
  rw [List.mem_append]
  constructor
  · rintro (z | z)
    · obtain ⟨k', hk, e⟩ := List.mem_map.mp z
      cases e
      obtain ⟨h1, h2⟩ := List.mem_filter.mp hk
      unfold canUp at h2
      obtain ⟨h3, h4⟩ := Bool.and_eq_true_iff.mp h2
      exact ⟨List.mem_range.mp h1, of_decide_eq_true h3, fun j hj ha => of_decide_eq_true (all_adj.mp h4 j hj ha)⟩
    · obtain ⟨k', hk, e⟩ := List.mem_map.mp z
      cases e
  · rintro ⟨h1, h2, h3⟩
    refine .inl (List.mem_map.mpr ⟨k, List.mem_filter.mpr ⟨List.mem_range.mpr h1, ?_⟩, rfl⟩)
    unfold canUp
    rw [decide_eq_true h2, Bool.true_and]
    exact all_adj.mpr fun j hj ha => decide_eq_true (h3 j hj ha)
theorem dn_iff : (false, k) ∈ deedsL n E r h ↔ k < n ∧ 0 < at0 h k ∧ ∀ j < n, Adj E j k → at0 h j ≤ at0 h k := by
  unfold deedsL
  rw [List.mem_append]
  constructor
  · rintro (z | z)
    · obtain ⟨k', hk, e⟩ := List.mem_map.mp z
      cases e
    · obtain ⟨k', hk, e⟩ := List.mem_map.mp z
      cases e
      obtain ⟨h1, h2⟩ := List.mem_filter.mp hk
      unfold canDn at h2
      obtain ⟨h3, h4⟩ := Bool.and_eq_true_iff.mp h2
      exact ⟨List.mem_range.mp h1, of_decide_eq_true h3, fun j hj ha => of_decide_eq_true (all_adj.mp h4 j hj ha)⟩
  · rintro ⟨h1, h2, h3⟩
    refine .inr (List.mem_map.mpr ⟨k, List.mem_filter.mpr ⟨List.mem_range.mpr h1, ?_⟩, rfl⟩)
    unfold canDn
    rw [decide_eq_true h2, Bool.true_and]
    exact all_adj.mpr fun j hj ha => decide_eq_true (h3 j hj ha)
theorem at0_step (hk : d.2 < h.length) : at0 (step h d) j = if j = d.2 then at0 h d.2 + (if d.1 then 1 else -1) else at0 h j := by
  unfold step at0
  rw [List.getD_eq_getElem?_getD, List.getElem?_set]
  by_cases e : j = d.2
  · subst e
    rw [if_pos rfl, if_pos hk, if_pos rfl]
    rfl
  · rw [if_neg (fun z => e z.symm), if_neg e, List.getD_eq_getElem?_getD]
theorem at0_same (hk : d.2 < h.length) : at0 (step h d) d.2 = at0 h d.2 + (if d.1 then 1 else -1) := by rw [at0_step hk, if_pos rfl]
theorem at0_other (hk : d.2 < h.length) (e : j ≠ d.2) : at0 (step h d) j = at0 h j := by rw [at0_step hk, if_neg e]
theorem deed_lt (hd : d ∈ deedsL n E r h) : d.2 < n := by
  obtain ⟨b, k⟩ := d
  cases b
  · exact (dn_iff.mp hd).1
  · exact (up_iff.mp hd).1
theorem step_isH (I : IsH n r h) (hd : d ∈ deedsL n E r h) : IsH n r (step h d) := by
  have hk := deed_lt hd
  have hl := I.len
  refine ⟨by unfold step; rw [List.length_set]; exact hl, fun j hj => ?_, fun j hj => ?_⟩
  · rw [at0_step (by omega)]
    split
    · obtain ⟨b, k⟩ := d
      cases b
      · have := (dn_iff.mp hd).2.1
        show 0 ≤ at0 h k + -1
        omega
      · have := I.lo k hk
        show 0 ≤ at0 h k + 1
        omega
    · exact I.lo j hj
  · rw [at0_step (by omega)]
    split
    · obtain ⟨b, k⟩ := d
      cases b
      · have := I.hi k hk
        show at0 h k + -1 ≤ r
        omega
      · have := (up_iff.mp hd).2.1
        show at0 h k + 1 ≤ r
        omega
    · exact I.hi j hj
/-- the least among those of a kind -/
theorem exists_min (f : Nat → Int) (c : Nat → Prop) : ∀ n : Nat, (∃ k < n, c k) → ∃ k < n, c k ∧ ∀ j < n, c j → f k ≤ f j
  | 0, h => by obtain ⟨k, hk, _⟩ := h; exact absurd hk (Nat.not_lt_zero _)
  | n + 1, h => by
    by_cases hn : ∃ k < n, c k
    · obtain ⟨k, hk, ck, hm⟩ := exists_min f c n hn
      by_cases cn : c n ∧ f n < f k
      · refine ⟨n, by omega, cn.1, fun j hj cj => ?_⟩
        by_cases e : j = n
        · rw [e]; exact Int.le_refl _
        · have := hm j (by omega) cj
          omega
      · refine ⟨k, by omega, ck, fun j hj cj => ?_⟩
        by_cases e : j = n
        · subst e
          have : ¬ f j < f k := fun z => cn ⟨cj, z⟩
          omega
        · exact hm j (by omega) cj
    · obtain ⟨k, hk, ck⟩ := h
      have e : k = n := by
        by_cases e : k = n
        · exact e
        · exact absurd ⟨k, by omega, ck⟩ hn
      subst e
      refine ⟨k, by omega, ck, fun j hj cj => ?_⟩
      by_cases e : j = k
      · rw [e]; exact Int.le_refl _
      · exact absurd ⟨j, by omega, cj⟩ hn
theorem deeds_ne (W : Web n E) (hr : 1 ≤ r) (I : IsH n r h) : deedsL n E r h ≠ [] := by
  obtain ⟨k, hk, _, hm⟩ := exists_min (at0 h) (fun _ => True) n ⟨0, W.n1, trivial⟩
  intro z
  by_cases e : at0 h k < r
  · have : (true, k) ∈ deedsL n E r h := up_iff.mpr ⟨hk, e, fun j hj _ => hm j hj trivial⟩
    rw [z] at this
    cases this
  · have h0 := hm 0 W.n1 trivial
    have : (false, 0) ∈ deedsL n E r h := dn_iff.mpr ⟨W.n1, by omega, fun j hj _ => by have := I.hi j hj; omega⟩
    rw [z] at this
    cases this
/-! ### reach -/
theorem mem_steep {a b : Nat} : (a, b) ∈ steepL E h ↔ Adj E a b ∧ 2 ≤ at0 h b - at0 h a := by
  unfold steepL
  rw [List.mem_filterMap]
  constructor
  · rintro ⟨⟨x, y⟩, hx, e⟩
    simp only at e
    split at e
    · rename_i h1
      cases e
      exact ⟨.inl hx, h1⟩
    · split at e
      · rename_i _ h2
        cases e
        exact ⟨.inr hx, h2⟩
      · cases e
  · rintro ⟨ha | ha, h2⟩
    · exact ⟨(a, b), ha, if_pos h2⟩
    · refine ⟨(b, a), ha, ?_⟩
      rw [if_neg (by simp only; omega), if_pos h2]
theorem comes_iff : comesB E one other = true ↔ ∀ a b, Adj E a b → 2 ≤ at0 other b - at0 other a → at0 one a ≤ at0 other a ∧ at0 other b ≤ at0 one b := by
  unfold comesB
  rw [List.all_eq_true]
  constructor
  · intro H a b ha h2
    have := H (a, b) (mem_steep.mpr ⟨ha, h2⟩)
    simp at this
    exact ⟨by omega, by omega⟩
  · rintro H ⟨a, b⟩ he
    obtain ⟨ha, h2⟩ := mem_steep.mp he
    have := H a b ha h2
    simp
    omega
theorem Adj.lt (W : Web n E) {a b : Nat} (ha : Adj E a b) : a < n ∧ b < n := by
  rcases ha with z | z
  · have := W.ok _ z; simp only at this; exact ⟨by omega, by omega⟩
  · have := W.ok _ z; simp only at this; exact ⟨by omega, by omega⟩
theorem Adj.ne (W : Web n E) {a b : Nat} (ha : Adj E a b) : a ≠ b := by
  rcases ha with z | z
  · have := W.ok _ z; simp only at this; omega
  · have := W.ok _ z; simp only at this; omega
theorem Adj.sym {a b : Nat} (ha : Adj E a b) : Adj E b a := ha.elim .inr .inl
/-- what comes in stays in by deeds -/
theorem comes_step (W : Web n E) (hl : h.length = n) (hc : comesB E one h = true) (hd : d ∈ deedsL n E r h) : comesB E one (step h d) = true := by
  have hk := deed_lt hd
  rw [comes_iff] at hc ⊢
  intro a b ha h2
  obtain ⟨la, lb⟩ := ha.lt W
  have nab := ha.ne W
  obtain ⟨u, k⟩ := d
  simp only at hk
  rw [at0_step (by simp only; omega), at0_step (by simp only; omega)] at h2 ⊢
  simp only at h2 ⊢
  cases u
  · obtain ⟨_, d1, d2⟩ := dn_iff.mp hd
    by_cases e1 : a = k
    · subst e1
      rw [if_pos rfl, if_neg (Ne.symm nab)] at h2
      have := d2 b lb ha.sym
      simp at h2
      omega
    · by_cases e2 : b = k
      · subst e2
        rw [if_pos rfl, if_neg nab] at h2 ⊢
        simp at h2
        have := hc a b ha (by omega)
        simp
        omega
      · rw [if_neg e1, if_neg e2] at h2 ⊢
        exact hc a b ha h2
  · obtain ⟨_, d1, d2⟩ := up_iff.mp hd
    by_cases e1 : a = k
    · subst e1
      rw [if_pos rfl, if_neg (Ne.symm nab)] at h2 ⊢
      simp at h2
      have := hc a b ha (by omega)
      simp
      omega
    · by_cases e2 : b = k
      · subst e2
        rw [if_pos rfl, if_neg nab] at h2
        have := d2 a la ha
        simp at h2
        omega
      · rw [if_neg e1, if_neg e2] at h2 ⊢
        exact hc a b ha h2
/-! ### costs -/
theorem sum_change {f g : Nat → Int} : ∀ {n : Nat}, k < n → (∀ j < n, j ≠ k → g j = f j) → ((List.range n).map g).sum = ((List.range n).map f).sum + (g k - f k)
  | 0, hk, _ => absurd hk (Nat.not_lt_zero _)
  | n + 1, hk, H => by
    rw [List.range_succ, List.map_append, List.map_append, List.sum_append, List.sum_append]
    simp only [List.map_cons, List.map_nil, List.sum_cons, List.sum_nil]
    by_cases e : k = n
    · subst e
      have : (List.range k).map g = (List.range k).map f := List.map_congr_left fun j hj => H j (by have := List.mem_range.mp hj; omega) (by have := List.mem_range.mp hj; omega)
      rw [this]
      omega
    · rw [sum_change (n := n) (by omega) fun j hj => H j (by omega), H n (by omega) (by omega)]
      omega
theorem max_pos {x : Int} (h : 0 ≤ x) : max 0 x = x := by rw [Int.max_def]; split <;> omega
theorem max_neg {x : Int} (h : x ≤ 0) : max 0 x = 0 := by rw [Int.max_def]; split <;> omega
theorem costN_self : costN p h h n = 0 := by
  unfold costN
  have : (List.range n).map (cost1 p h h) = (List.range n).map fun _ => (0 : Int) := List.map_congr_left fun j _ => by unfold cost1; rw [Int.sub_self, max_pos (Int.le_refl 0), Int.mul_zero, Int.mul_zero]; rfl
  rw [this]
  clear this
  induction n with
  | zero => rfl
  | succ n ih => rw [List.range_succ, List.map_append, List.sum_append, ih]; rfl
theorem cost1_nn (I : IsP n p) (hk : k < n) : 0 ≤ cost1 p one other k := by
  obtain ⟨h1, h2⟩ := I.lo k hk
  unfold cost1
  have a1 : 0 ≤ max 0 (at0 other k - at0 one k) := by rw [Int.max_def]; split <;> omega
  have a2 : 0 ≤ max 0 (at0 one k - at0 other k) := by rw [Int.max_def]; split <;> omega
  have := Int.mul_nonneg h1 a1
  have := Int.mul_nonneg h2 a2
  omega
theorem sum_nn {f : Nat → Int} : ∀ {n : Nat}, (∀ j < n, 0 ≤ f j) → 0 ≤ ((List.range n).map f).sum
  | 0, _ => Int.le_refl _
  | n + 1, H => by
    rw [List.range_succ, List.map_append, List.sum_append]
    simp only [List.map_cons, List.map_nil, List.sum_cons, List.sum_nil]
    have := sum_nn (f := f) (n := n) fun j hj => H j (by omega)
    have := H n (by omega)
    omega
theorem costN_nn (I : IsP n p) : 0 ≤ costN p one other n := sum_nn fun _ hj => cost1_nn I hj
theorem dcost_nn (I : IsP n p) (hk : d.2 < n) : 0 ≤ dcost p d := by
  obtain ⟨h1, h2⟩ := I.lo d.2 hk
  unfold dcost
  split <;> assumption
theorem dcost_le (I : IsP n p) (hk : d.2 < n) : dcost p d ≤ 1000 := by
  obtain ⟨h1, h2⟩ := I.hi d.2 hk
  unfold dcost
  split <;> assumption
theorem sum_le {f : Nat → Int} {c : Int} : ∀ {n : Nat}, (∀ j < n, f j ≤ c) → ((List.range n).map f).sum ≤ c * n
  | 0, _ => by simp
  | n + 1, H => by
    rw [List.range_succ, List.map_append, List.sum_append]
    simp only [List.map_cons, List.map_nil, List.sum_cons, List.sum_nil]
    have := sum_le (f := f) (n := n) fun j hj => H j (by omega)
    have h2 := H n (by omega)
    have : c * ((n + 1 : Nat) : Int) = c * n + c := by rw [Int.natCast_add, Int.mul_add]; simp
    omega
theorem cost1_le (I : IsP n p) (I1 : IsH n r one) (I2 : IsH n r other) (hk : k < n) : cost1 p one other k ≤ 1000 * r := by
  obtain ⟨h1, h2⟩ := I.lo k hk
  obtain ⟨g1, g2⟩ := I.hi k hk
  have a1 := I1.lo k hk
  have a2 := I1.hi k hk
  have b1 := I2.lo k hk
  have b2 := I2.hi k hk
  unfold cost1
  by_cases e : at0 one k ≤ at0 other k
  · rw [max_pos (by omega), max_neg (by omega), Int.mul_zero, Int.add_zero]
    exact Int.mul_le_mul g1 (by omega) (by omega) (by omega)
  · rw [max_neg (by omega), max_pos (by omega), Int.mul_zero, Int.zero_add]
    exact Int.mul_le_mul g2 (by omega) (by omega) (by omega)
theorem costN_le (I : IsP n p) (I1 : IsH n r one) (I2 : IsH n r other) : costN p one other n ≤ 1000 * r * n := sum_le fun _ hj => cost1_le I I1 I2 hj
theorem cost_step_diff (hl : h.length = n) (hk : d.2 < n) : costN p one (step h d) n = costN p one h n + (cost1 p one (step h d) d.2 - cost1 p one h d.2) :=
  sum_change hk fun j hj e => by unfold cost1; rw [at0_other (by omega) e]
/-- a deed more costs no less than its price -/
theorem cost_tri (I : IsP n p) (hl : h.length = n) (hk : d.2 < n) : costN p one (step h d) n ≤ costN p one h n + dcost p d := by
  rw [cost_step_diff hl hk]
  obtain ⟨l1, l2⟩ := I.lo d.2 hk
  have key : cost1 p one (step h d) d.2 ≤ cost1 p one h d.2 + dcost p d := by
    unfold cost1 dcost
    rw [at0_same (by omega)]
    obtain ⟨u, k⟩ := d
    simp only at l1 l2 ⊢
    cases u
    · simp only [Bool.false_eq_true, if_false]
      by_cases e : at0 h k ≤ at0 one k
      · rw [max_neg (x := at0 h k + -1 - at0 one k) (by omega), max_neg (x := at0 h k - at0 one k) (by omega), max_pos (x := at0 one k - (at0 h k + -1)) (by omega), max_pos (x := at0 one k - at0 h k) (by omega),
          show at0 one k - (at0 h k + -1) = (at0 one k - at0 h k) + 1 by omega, Int.mul_add (pr p k).2]
        omega
      · rw [max_pos (x := at0 h k + -1 - at0 one k) (by omega), max_pos (x := at0 h k - at0 one k) (by omega), max_neg (x := at0 one k - (at0 h k + -1)) (by omega), max_neg (x := at0 one k - at0 h k) (by omega)]
        have : (pr p k).1 * (at0 h k - at0 one k) = (pr p k).1 * (at0 h k + -1 - at0 one k) + (pr p k).1 := by
          rw [show at0 h k - at0 one k = (at0 h k + -1 - at0 one k) + 1 by omega, Int.mul_add (pr p k).1]
          omega
        omega
    · simp only [if_true]
      by_cases e : at0 one k ≤ at0 h k
      · rw [max_pos (x := at0 h k + 1 - at0 one k) (by omega), max_pos (x := at0 h k - at0 one k) (by omega), max_neg (x := at0 one k - (at0 h k + 1)) (by omega), max_neg (x := at0 one k - at0 h k) (by omega),
          show at0 h k + 1 - at0 one k = (at0 h k - at0 one k) + 1 by omega, Int.mul_add (pr p k).1]
        omega
      · rw [max_neg (x := at0 h k + 1 - at0 one k) (by omega), max_neg (x := at0 h k - at0 one k) (by omega), max_pos (x := at0 one k - (at0 h k + 1)) (by omega), max_pos (x := at0 one k - at0 h k) (by omega)]
        have : (pr p k).2 * (at0 one k - at0 h k) = (pr p k).2 * (at0 one k - (at0 h k + 1)) + (pr p k).2 := by
          rw [show at0 one k - at0 h k = (at0 one k - (at0 h k + 1)) + 1 by omega, Int.mul_add (pr p k).2]
          omega
        omega
  omega
/-- a deed towards the end: its price and the rest -/
theorem cost_back (hl : h.length = n) (hk : d.2 < n) (hw : if d.1 then at0 h d.2 < at0 other d.2 else at0 other d.2 < at0 h d.2) : costN p h other n = dcost p d + costN p (step h d) other n := by
  have e : costN p (step h d) other n = costN p h other n + (cost1 p (step h d) other d.2 - cost1 p h other d.2) := sum_change hk fun j hj e => by unfold cost1; rw [at0_other (by omega) e]
  rw [e]
  have key : cost1 p h other d.2 = dcost p d + cost1 p (step h d) other d.2 := by
    unfold cost1 dcost
    rw [at0_same (by omega)]
    obtain ⟨u, k⟩ := d
    cases u
    · simp only [Bool.false_eq_true, if_false] at hw ⊢
      rw [max_neg (x := at0 other k - at0 h k) (by omega), max_neg (x := at0 other k - (at0 h k + -1)) (by omega), max_pos (x := at0 h k - at0 other k) (by omega), max_pos (x := at0 h k + -1 - at0 other k) (by omega),
        show at0 h k - at0 other k = (at0 h k + -1 - at0 other k) + 1 by omega, Int.mul_add (pr p k).2]
      omega
    · simp only [if_true] at hw ⊢
      rw [max_pos (x := at0 other k - at0 h k) (by omega), max_pos (x := at0 other k - (at0 h k + 1)) (by omega), max_neg (x := at0 h k - at0 other k) (by omega), max_neg (x := at0 h k + 1 - at0 other k) (by omega),
        show at0 other k - at0 h k = (at0 other k - (at0 h k + 1)) + 1 by omega, Int.mul_add (pr p k).1]
      omega
  omega
/-- how far: the sum of what is between -/
def gapN (n : Nat) (one other : List Int) : Nat := (((List.range n).map fun k => max 0 (at0 other k - at0 one k) + max 0 (at0 one k - at0 other k)).sum).toNat
def gapZ (n : Nat) (one other : List Int) : Int := ((List.range n).map fun k => max 0 (at0 other k - at0 one k) + max 0 (at0 one k - at0 other k)).sum
theorem gapZ_nn : 0 ≤ gapZ n one other := sum_nn fun k _ => by rw [Int.max_def, Int.max_def]; split <;> split <;> omega
theorem gapZ_back (hl : h.length = n) (hk : d.2 < n) (hw : if d.1 then at0 h d.2 < at0 other d.2 else at0 other d.2 < at0 h d.2) : gapZ n h other = 1 + gapZ n (step h d) other := by
  have e : gapZ n (step h d) other = gapZ n h other + _ := sum_change (k := d.2) hk fun j hj e => by rw [at0_other (by omega) e]
  rw [e, at0_same (by omega)]
  obtain ⟨u, k⟩ := d
  cases u
  · simp only [Bool.false_eq_true, if_false] at hw ⊢
    rw [max_neg (x := at0 other k - at0 h k) (by omega), max_neg (x := at0 other k - (at0 h k + -1)) (by omega), max_pos (x := at0 h k - at0 other k) (by omega), max_pos (x := at0 h k + -1 - at0 other k) (by omega)]
    omega
  · simp only [if_true] at hw ⊢
    rw [max_pos (x := at0 other k - at0 h k) (by omega), max_pos (x := at0 other k - (at0 h k + 1)) (by omega), max_neg (x := at0 h k - at0 other k) (by omega), max_neg (x := at0 h k + 1 - at0 other k) (by omega)]
    omega
/-- .. and there is such a deed, as long as what is wanted comes in -/
theorem deed_toward (W : Web n E) (I : IsH n r h) (J : IsH n r other) (hc : comesB E h other = true) (hne : ∃ k < n, at0 h k ≠ at0 other k) :
    ∃ d, d ∈ deedsL n E r h ∧ comesB E (step h d) other = true ∧ (if d.1 then at0 h d.2 < at0 other d.2 else at0 other d.2 < at0 h d.2) := by
  have hl := I.len
  rw [comes_iff] at hc
  by_cases hu : ∃ k < n, at0 h k < at0 other k
  · obtain ⟨k, hk, ck, hm⟩ := exists_min (at0 h) (fun k => at0 h k < at0 other k) n hu
    refine ⟨(true, k), up_iff.mpr ⟨hk, by have := J.hi k hk; omega, fun j hj ha => ?_⟩, ?_, ck⟩
    · by_cases cj : at0 h j < at0 other j
      · exact hm j hj cj
      · by_cases z : at0 h k ≤ at0 h j
        · exact z
        · have := hc j k ha (by omega)
          omega
    · rw [comes_iff]
      intro a b ha h2
      have hab := hc a b ha h2
      rw [at0_step (by simp only; omega), at0_step (by simp only; omega)]
      simp only [if_true]
      refine ⟨?_, ?_⟩
      · split
        · rename_i e
          subst e
          omega
        · exact hab.1
      · split
        · rename_i e
          subst e
          omega
        · exact hab.2
  · have hdn : ∃ k < n, at0 other k < at0 h k := by
      obtain ⟨k, hk, e⟩ := hne
      refine ⟨k, hk, ?_⟩
      by_cases z : at0 h k < at0 other k
      · exact absurd ⟨k, hk, z⟩ hu
      · omega
    obtain ⟨k, hk, ck, hm⟩ := exists_min (fun k => - at0 h k) (fun k => at0 other k < at0 h k) n hdn
    refine ⟨(false, k), dn_iff.mpr ⟨hk, by have := J.lo k hk; omega, fun j hj ha => ?_⟩, ?_, by simpa using ck⟩
    · by_cases cj : at0 other j < at0 h j
      · have := hm j hj cj
        omega
      · by_cases z : at0 h j ≤ at0 h k
        · exact z
        · have := hc k j ha.sym (by omega)
          omega
    · rw [comes_iff]
      intro a b ha h2
      have hab := hc a b ha h2
      rw [at0_step (by simp only; omega), at0_step (by simp only; omega)]
      simp only [Bool.false_eq_true, if_false]
      refine ⟨?_, ?_⟩
      · split
        · rename_i e
          subst e
          omega
        · exact hab.1
      · split
        · rename_i e
          subst e
          omega
        · exact hab.2
theorem eq_of_at0 (h1 : one.length = n) (h2 : other.length = n) (e : ∀ k < n, at0 one k = at0 other k) : one = other := by
  refine List.ext_getElem? fun k => ?_
  by_cases hk : k < n
  · rw [at0_get (by omega), at0_get (by omega), e k hk]
  · rw [List.getElem?_eq_none (by omega), List.getElem?_eq_none (by omega)]
end Lv
/-! Ld6: the draws. -/
namespace Lv
open PySem PySem.Spec PyProof.Rows L2 Lw
def RowOk (row : List PyData) : Prop := ∃ (ns : List Int) (a b c : Int), row = [scrD ns, .int a, .int b, .int c] ∧ 0 ≤ a ∧ 0 ≤ b ∧ 0 ≤ c
section
variable {P : Program} {w : World} {K : PySem.W.Frag} {mg : Str → Option Value} {base : Heap}
def R__law_taken : List PyData → List PyData → (PyData → List PyData → Prop) → Prop := fun row ds Pw => ∃ n : Int, ds = [.int n] ∧ 1 ≤ n ∧ n ≤ 1000000 ∧ RowOk row ∧ ∀ x row', 0 ≤ x → x < n → RowOk row' → Pw (.int x) row'
theorem w__law_taken (B : Bi mg) (D : DefG K mg "_law_taken" s__law_taken) : Cal P w K mg base 1 "_law_taken" ["_law_row", "_law_many_here"] (spR K 1 R__law_taken) := by
  refine mk_calR (k := 0) (N := ["_law_row", "_law_many_here", "_law_found", "_law_cell"]) R__law_taken D sc__law_taken (fun _ _ _ _ _ _ us hl => match us, hl with | [_, _], _ => rfl) (fun f cdv A outer s H E hr => ⟨_, (pss_cons (ps_if (pt_cmpR op_gt (pe_ix (kix_seq K rfl) (pv 0) pe_int (fun _ _ => rfl)) pe_int (nomark _)) (pss_cons (ps_set (i := 2) sc__law_taken.nd rfl (by first | exact .inl rfl | exact .inr rfl) (pe_op op_mod (pe_callTy call_int1 (by rfl) B.int (by decide +kernel) (pa_cons (pe_ix (kix_seq K rfl) (pv 0) pe_int (fun _ _ => rfl)) pa_nil)) (pv 1)))
      (pss_cons (ps_asg (pe_op op_fdiv (pe_ix (kix_seq K rfl) (pv 0) pe_int (fun _ _ => rfl)) (pv 1)) (pg_sub (pv 0) pe_int set_list))
      (pss_one (ps_ret (pv 2))))) pss_nil)
      (pss_cons (ps_asg (pe_op op_add (pe_ix (kix_seq K rfl) (pv 0) pe_int (fun _ _ => rfl)) pe_int) (pg_sub (pv 0) pe_int set_list))
      (pss_cons (ps_if (pt_cmpR op_gt (pe_ix (kix_seq K rfl) (pv 0) pe_int (fun _ _ => rfl)) (pe_callB (kcall_len K rfl) (by rfl) B.len (by decide +kernel) (pa_cons (pe_ix (kix_seq K rfl) (pv 0) pe_int (fun _ _ => rfl)) pa_nil)) (nomark _)) (pss_cons (ps_asg (pe_op op_mod (pe_callTy call_int1 (by rfl) B.int (by decide +kernel) (pa_cons (pe_op op_add (pe_op op_mul (pe_ix (kix_seq K rfl) (pv 0) pe_int (fun _ _ => rfl)) pe_int) pe_int) pa_nil)) pe_int) (pg_sub (pv 0) pe_int set_list))
      (pss_one (ps_ret (pe_op op_mod (pe_callTy call_int1 (by rfl) B.int (by decide +kernel) (pa_cons (pe_op op_fdiv (pe_ix (kix_seq K rfl) (pv 0) pe_int (fun _ _ => rfl)) pe_int) pa_nil)) (pv 1))))) pss_nil)
      (pss_cons (ps_set (i := 3) sc__law_taken.nd rfl (by first | exact .inl rfl | exact .inr rfl) (pe_ix (kix_seq K rfl) (pe_ix (kix_seq K rfl) (pv 0) pe_int (fun _ _ => rfl)) (pe_op op_sub (pe_ix (kix_seq K rfl) (pv 0) pe_int (fun _ _ => rfl)) pe_int) (fun _ _ => rfl)))
      (pss_cons (ps_asg (pe_op op_mod (pe_callTy call_int1 (by rfl) B.int (by decide +kernel) (pa_cons (pe_op op_add (pe_op op_add (pe_op op_mul (pe_ix (kix_seq K rfl) (pv 0) pe_int (fun _ _ => rfl)) pe_int) (pv 3)) pe_int) pa_nil)) pe_int) (pg_sub (pv 0) pe_int set_list))
      (pss_cons (ps_if (pt_cmpR op_ge (pv 3) (pe_op op_pow pe_int pe_int) (nomark _)) (pss_one (ps_asg (pe_op op_fdiv (pv 3) (pv 1)) (pg_sub (pv 0) pe_int set_list))) pss_nil)
      (pss_one (ps_ret (pe_op op_mod (pe_callTy call_int1 (by rfl) B.int (by decide +kernel) (pa_cons (pv 3) pa_nil)) (pv 1)))))))))), fun a row ds Pw hl hR => ?_⟩)
  obtain ⟨n, rfl, n1, n2, ⟨ns, i, j, c, rfl, hi, hj, hc⟩, hp⟩ := hR
  have hm : ∀ x : Int, 0 ≤ x % n ∧ x % n < n := fun x => ⟨Int.emod_nonneg _ (by omega), Int.emod_lt_of_pos _ (by omega)⟩
  refine es_seq <| es_if <| et_test <| ev_op <| ev_ixO (ev_int ⟨3, a, _, _, rfl, rfl, rfl, rfl, ev_int <| rd_b ⟨_, rfl, Br.dec (fun h1 => ?_) (fun h1 => ?_)⟩⟩) ⟨_, _, rfl⟩
  · refine es_seq <| es_set <| ev_op <| ev_cb <| ea_cons <| ev_ixO (ev_int ⟨3, a, _, _, rfl, rfl, rfl, rfl, ea_nil <| rc_intI <| ev_var rfl <| rd_c (show (0 : Int) < n by omega) ?_⟩) ⟨_, _, rfl⟩
    refine es_seq <| es_put <| ev_op <| ev_ixO (ev_int ⟨3, a, _, _, rfl, rfl, rfl, rfl, ev_var rfl <| rd_c ⟨by omega, by omega⟩ ⟨a, _, 3, rfl, rfl, ?_⟩⟩) ⟨_, _, rfl⟩
    exact es_ret <| ev_var rfl ⟨_, rfl, hp _ _ (hm c).1 (hm c).2 ⟨ns, i, j, _, rfl, hi, hj, Int.ediv_nonneg hc (by omega)⟩⟩
  refine es_next <| es_seq <| es_put <| ev_op <| ev_ixO (ev_int ⟨1, a, _, _, rfl, rfl, rfl, rfl, ev_int <| rd_i ⟨a, _, 1, rfl, rfl, ?_⟩⟩) ⟨_, _, rfl⟩
  have pm : ∀ x : Int, 0 ≤ x % 2147483647 := fun x => Int.emod_nonneg _ (by decide)
  refine es_seq <| es_if <| et_test <| ev_op <| ev_ixO (ev_int ⟨1, a, _, _, rfl, rfl, rfl, rfl, ev_cb <| ea_cons <| ev_ixO (ev_int ⟨0, a, _, _, rfl, rfl, rfl, rfl, ea_nil <| rc_lenS <| rd_b ⟨_, rfl, Br.dec (fun h2 => ?_) (fun h2 => ?_)⟩⟩) ⟨_, _, rfl⟩⟩) ⟨_, _, rfl⟩
  · refine es_seq <| es_put <| ev_op <| ev_cb <| ea_cons <| ev_op <| ev_op <| ev_ixO (ev_int ⟨2, a, _, _, rfl, rfl, rfl, rfl, ev_int <| rd_c (.inr ⟨by decide, by decide⟩) <| ev_int <| rd_i <| ea_nil <| rc_intI <| ev_int <| rd_c (by decide) ⟨a, _, 2, rfl, rfl, ?_⟩⟩) ⟨_, _, rfl⟩
    refine es_ret <| ev_op <| ev_cb <| ea_cons <| ev_op <| ev_ixO (ev_int ⟨2, a, _, _, rfl, rfl, rfl, rfl, ev_int <| rd_c ⟨by decide, by decide⟩ <| ea_nil <| rc_intI <| ev_var rfl <| rd_c (show (0 : Int) < n by omega) ⟨_, rfl, hp _ _ (hm _).1 (hm _).2 ⟨ns, i + 1, _, c, rfl, by omega, pm _, hc⟩⟩⟩) ⟨_, _, rfl⟩
  have hlt : i < ns.length := by omega
  obtain ⟨k, rfl⟩ : ∃ k : Nat, i = k := ⟨i.toNat, by omega⟩
  have hk : k < ns.length := by omega
  have cell : atI ns ((k : Int) + 1 - 1) = some ns[k] := by
    rw [show (k : Int) + 1 - 1 = (k : Int) by omega]
    exact atI_nat (List.getElem?_eq_getElem hk)
  refine es_next <| es_seq <| es_set <| ev_op <| ev_ixO (ev_int ⟨0, a, _, _, rfl, rfl, rfl, rfl, ev_op <| ev_ixO (ev_int ⟨1, a, _, _, rfl, rfl, rfl, rfl, ev_int <| rd_i <| rd_ixS cell ?_⟩) ⟨_, _, rfl⟩⟩) ⟨_, _, rfl⟩
  refine es_seq <| es_put <| ev_op <| ev_cb <| ea_cons <| ev_op <| ev_op <| ev_op <| ev_ixO (ev_int ⟨2, a, _, _, rfl, rfl, rfl, rfl, ev_int <| rd_c (.inr ⟨by decide, by decide⟩) <| ev_var rfl <| rd_i <| ev_int <| rd_i <| ea_nil <| rc_intI <| ev_int <| rd_c (by decide) ⟨a, _, 2, rfl, rfl, ?_⟩⟩) ⟨_, _, rfl⟩
  refine es_seq <| es_if <| et_test <| ev_op <| ev_var rfl <| ev_op <| ev_int <| ev_int <| rd_c ⟨by decide, by decide, by decide⟩ <| rd_b ⟨_, rfl, Br.dec (fun h3 => ?_) (fun h3 => ?_)⟩
  · have h4 : (0 : Int) ≤ ns[k] := Int.le_trans (by decide) h3
    refine es_put <| ev_op <| ev_var rfl <| ev_var rfl <| rd_c ⟨by omega, by omega⟩ ⟨a, _, 3, rfl, rfl, ?_⟩
    exact es_ret <| ev_op <| ev_cb <| ea_cons <| ev_var rfl <| ea_nil <| rc_intI <| ev_var rfl <| rd_c (show (0 : Int) < n by omega) ⟨_, rfl, hp _ _ (hm _).1 (hm _).2 ⟨ns, k + 1, _, _, rfl, by omega, pm _, Int.ediv_nonneg h4 (by omega)⟩⟩
  · exact es_next <| es_ret <| ev_op <| ev_cb <| ea_cons <| ev_var rfl <| ea_nil <| rc_intI <| ev_var rfl <| rd_c (show (0 : Int) < n by omega) ⟨_, rfl, hp _ _ (hm _).1 (hm _).2 ⟨ns, k + 1, _, _, rfl, by omega, pm _, hc⟩⟩
def R__law_pick : List PyData → List PyData → (PyData → List PyData → Prop) → Prop := fun row ds Pw => ∃ xs : List PyData, ds = [.list xs] ∧ xs ≠ [] ∧ xs.length ≤ 100000 ∧ RowOk row ∧ ∀ x row', x ∈ xs → RowOk row' → Pw x row'
theorem w__law_pick (B : Bi mg) (D : DefG K mg "_law_pick" s__law_pick) (C__law_taken : Cal P w K mg base 1 "_law_taken" ["_law_row", "_law_many_here"] (spR K 1 R__law_taken)) : Cal P w K mg base 2 "_law_pick" ["_law_row", "_law_things"] (spR K 1 R__law_pick) := by
  refine mk_calR (k := 1) (N := ["_law_row", "_law_things"]) R__law_pick D sc__law_pick (fun _ _ _ _ _ _ us hl => match us, hl with | [_, _], _ => rfl) (fun f cdv A outer s H E hr => ⟨_, (pss_one (ps_ret (pe_ix (kix_seq K rfl) (pv 1) (pe_cal (C__law_taken.mono (by decide)) hr (by rfl) (pa_cons (pv 0) (pa_cons (pe_callB (kcall_len K rfl) (by rfl) B.len (by decide +kernel) (pa_cons (pv 1) pa_nil)) pa_nil))) (fun _ _ => rfl)))), fun a row ds Pw hl hR => ?_⟩)
  obtain ⟨xs, rfl, hne, hz, hr, hp⟩ := hR
  have hl : 0 < xs.length := by cases xs with | nil => exact absurd rfl hne | cons _ _ => simp
  refine es_ret <| ev_op <| ev_var rfl <| ev_callR rfl <| ea_cons <| ev_cb <| ea_cons <| ev_var rfl <| ea_nil <| rc_lenL <| ea_nil ⟨row, rfl, rfl, _, rfl, by omega, by omega, hr, fun x row' x0 x1 ok => ?_⟩
  obtain ⟨k, rfl⟩ : ∃ k : Nat, x = k := ⟨x.toNat, by omega⟩
  have hk : k < xs.length := by omega
  exact rd_ixL (d := xs[k]) (atI_nat (List.getElem?_eq_getElem hk)) ⟨row', rfl, hp _ _ (List.getElem_mem hk) ok⟩
def R__law_many : List PyData → (PyData → Prop) → Prop := fun ds Pw => ∃ r n : Nat, ds = [.int r, .int n] ∧ n ≤ 1000 ∧ r ≤ 1000 ∧ Pw (.int (((r + 1) ^ n : Nat) : Int))
theorem w__law_many (B : Bi mg) (D : DefG K mg "_law_many" s__law_many) : Cal P w K mg base 1 "_law_many" ["_law_roof", "_law_many_here"] (spP K 2 R__law_many) := by
  refine mk_cal (k := 0) (N := ["_law_roof", "_law_many_here", "_law_found", "_law_k"]) R__law_many D sc__law_many (fun _ _ _ _ _ _ us hl => match us, hl with | [_, _], _ => rfl) (fun f cdv A outer s H E hr => ⟨_, (pss_cons (ps_set (i := 2) sc__law_many.nd rfl (by first | exact .inl rfl | exact .inr rfl) pe_int)
      (pss_cons (ps_for PassesOwn.never rfl (pi_range1 (by rfl) B.range (pa_cons (pv 1) pa_nil)) (pg_name (i := 3) sc__law_many.nd rfl (by first | exact .inl rfl | exact .inr rfl)) (pss_one (ps_set (i := 2) sc__law_many.nd rfl (by first | exact .inl rfl | exact .inr rfl) (pe_op op_mul (pv 2) (pe_op op_add (pv 0) pe_int)))))
      (pss_one (ps_ret (pv 2))))), fun ds Pw hl hR => ?_⟩)
  obtain ⟨r, n, rfl, h1, h2, hp⟩ := hR
  refine es_seq <| es_set <| ev_int ?_
  refine es_seq <| es_for (js := [3]) <| ei_r1 <| ea_cons <| ev_var rfl <| ea_nil ⟨_, rfl, by omega, by omega, fun i ρ' => ∃ x, ρ' = [.da (.int r), .da (.int n), .da (.int (((r + 1) ^ i : Nat) : Int)), x], fun _ _ _ => trivial, ⟨_, rfl⟩, ?_, ?_⟩
  · rintro i d ρ' hd ⟨x, rfl⟩
    refine g_name <| es_set <| ev_op <| ev_var rfl <| ev_op <| ev_var rfl <| ev_int <| rd_i <| rd_c (.inr ⟨by omega, by omega⟩) ⟨.da d, ?_⟩
    rw [Nat.pow_succ, Int.natCast_mul]
    rfl
  · rintro ρ' ⟨x, rfl⟩
    rw [rngD_len]
    exact es_ret <| ev_var rfl hp
def R__law_step : List PyData → (PyData → Prop) → Prop := fun ds Pw => ∃ (h : List Int) (d : Deed), ds = [encI h, encD d] ∧ d.2 < h.length ∧ Pw (encI (step h d))
theorem w__law_step (B : Bi mg) (D : DefG K mg "_law_step" s__law_step) : Cal P w K mg base 1 "_law_step" ["_law_heights_here", "_law_deed"] (spP K 2 R__law_step) := by
  refine mk_cal (k := 0) (N := ["_law_heights_here", "_law_deed", "_law_found"]) R__law_step D sc__law_step (fun _ _ _ _ _ _ us hl => match us, hl with | [_, _], _ => rfl) (fun f cdv A outer s H E hr => ⟨_, (pss_cons (ps_set (i := 2) sc__law_step.nd rfl (by first | exact .inl rfl | exact .inr rfl) (pe_callTy (kcall_list_of K rfl) (by rfl) B.list (by decide +kernel) (pa_cons (pv 0) pa_nil)))
      (pss_cons (ps_asg (pe_op op_add (pe_ix (kix_seq K rfl) (pv 2) (pe_ix (kix_seq K rfl) (pv 1) pe_int (fun _ _ => rfl)) (fun _ _ => rfl)) (pe_ifExp (pt_val (pe_ix (kix_seq K rfl) (pv 1) pe_int (fun _ _ => rfl))) pe_int (pe_op op_sub pe_int pe_int))) (pg_sub (pv 2) (pe_ix (kix_seq K rfl) (pv 1) pe_int (fun _ _ => rfl)) set_list))
      (pss_one (ps_ret (pe_callTy (kcall_tuple_of K rfl) (by rfl) B.tuple (by decide +kernel) (pa_cons (pv 2) pa_nil)))))), fun ds Pw hl hR => ?_⟩)
  obtain ⟨h, d, rfl, hd, hp⟩ := hR
  refine es_seq <| es_ownT <| ea_cons <| ev_var rfl <| ea_nil ⟨_, rfl, fun l _ => ?_⟩
  refine es_seq <| es_putE <| ev_op <| ev_ixO (ev_op <| ev_var rfl <| ev_int <| rd_ixT rfl ⟨_, l, _, _, rfl, rfl, rfl, atH hd, ev_if <| et_B <| ev_op <| ev_var rfl <| ev_int <| rd_ixT rfl ⟨_, rfl, fun e => ?_, fun e => ?_⟩⟩) ⟨_, _, rfl⟩
  · refine ev_int <| rd_i ⟨⟨l, _, rfl⟩, ev_op <| ev_var rfl <| ev_int <| rd_ixT rfl ⟨_, l, _, d.2, rfl, rfl, rfl, ?_, ?_⟩⟩
    · rw [List.length_map]
      unfold ixN
      rw [if_pos (by omega), if_pos (by omega)]
      simp
    · refine es_ret <| ev_cb <| ea_cons <| ev_take rfl <| ea_nil <| rc_tupL ?_
      have e2 : (h.map PyData.int).set d.2 (.int (at0 h d.2 + 1)) = (step h d).map PyData.int := by
        unfold step
        rw [e, if_pos rfl, List.map_set]
      rw [e2]
      exact hp
  · refine ev_op <| ev_int <| ev_int <| rd_i <| rd_i ⟨⟨l, _, rfl⟩, ev_op <| ev_var rfl <| ev_int <| rd_ixT rfl ⟨_, l, _, d.2, rfl, rfl, rfl, ?_, ?_⟩⟩
    · rw [List.length_map]
      unfold ixN
      rw [if_pos (by omega), if_pos (by omega)]
      simp
    · refine es_ret <| ev_cb <| ea_cons <| ev_take rfl <| ea_nil <| rc_tupL ?_
      have e2 : (h.map PyData.int).set d.2 (.int (at0 h d.2 + (0 - 1))) = (step h d).map PyData.int := by
        unfold step
        rw [e, if_neg Bool.false_ne_true, List.map_set]
        rfl
      rw [e2]
      exact hp
def R__law_beside : List PyData → (PyData → Prop) → Prop := fun ds Pw => ∃ (n : Nat) (E : Edges) (k : Nat), ds = [webD n E, .int k] ∧ n ≤ 1000 ∧ Pw (.list (((List.range n).filter fun j => decide (Adj E j k)).map iN))
theorem dec_adj {E : Edges} {j k : Nat} : decide (Adj E j k) = (decide ((j, k) ∈ E) || decide ((k, j) ∈ E)) := by
  rw [Bool.eq_iff_iff]
  simp [Adj]
theorem w__law_beside (B : Bi mg) (D : DefG K mg "_law_beside" s__law_beside) : Cal P w K mg base 1 "_law_beside" ["_law_web", "_law_place"] (spP K 2 R__law_beside) := by
  refine mk_cal (k := 0) (N := ["_law_web", "_law_place", "_law_k"]) R__law_beside D sc__law_beside (fun _ _ _ _ _ _ us hl => match us, hl with | [_, _], _ => rfl) (fun f cdv A outer s H E hr => ⟨_, (pss_one (ps_ret (pe_lc (own := [("_law_k", 2)]) rfl sc__law_beside.nd (pi_range1 (by rfl) B.range (pa_cons (pe_ix (kix_seq K rfl) (pv 0) pe_int (fun _ _ => rfl)) pa_nil)) (blkOk_by (N := ["_law_web", "_law_place", "_law_k"]) (sc := defScope s__law_beside) (by decide +kernel)) (fun _ _ _ _ _ => (pg_name (i := 2) sc__law_beside.nd rfl (by first | exact .inl rfl | exact .inr rfl))) (fun _ _ _ _ _ => (pts_one (PW.pt (pw_or (pt_cmpR (kop_inT K rfl hr.u65) (pe_tup (pa_cons (pv 2) (pa_cons (pv 1) pa_nil))) (pe_ix (kix_seq K rfl) (pv 0) pe_int (fun _ _ => rfl)) (by rfl)) (pw_or1 (pt_cmpR (kop_inT K rfl hr.u65) (pe_tup (pa_cons (pv 1) (pa_cons (pv 2) pa_nil))) (pe_ix (kix_seq K rfl) (pv 0) pe_int (fun _ _ => rfl)) (by rfl))))))) (fun _ _ _ _ _ => (pv 2))))), fun ds Pw hl hR => ?_⟩)
  obtain ⟨n, E, k, rfl, hn, hp⟩ := hR
  refine es_ret <| ev_lcP (α := Nat) (js := [2]) (by decide) <| ei_r1 <| ea_cons <| ev_op <| ev_var rfl <| ev_int <| rd_ixT rfl <| ea_nil ⟨_, rfl, by omega, by omega, List.range n, iN, fun j => decide (Adj E j k), iN, trivial, rng0, by rw [List.length_range]; omega, ?_, hp⟩
  intro j hj
  refine g_name <| et_or <| et_test <| ev_op <| ev_tup <| ea_cons <| ev_var rfl <| ea_cons <| ev_var rfl <| ea_nil ⟨by simp, ev_op <| ev_var rfl <| ev_int <| rd_ixT rfl <| rd_inT (x := eN (j, k)) okeN (okMT fun _ => Sh.eN) ⟨_, rfl, ?_⟩⟩
  rw [any_eN]
  refine ⟨fun e1 => ?_, fun e1 => ?_⟩
  · refine ⟨?_, fun _ => ev_var rfl ⟨rfl, rfl⟩, fun _ => rfl⟩
    show true = decide (Adj E j k)
    rw [dec_adj, e1]
    rfl
  · refine et_test <| ev_op <| ev_tup <| ea_cons <| ev_var rfl <| ea_cons <| ev_var rfl <| ea_nil ⟨by simp, ev_op <| ev_var rfl <| ev_int <| rd_ixT rfl <| rd_inT (x := eN (k, j)) okeN (okMT fun _ => Sh.eN) ⟨_, rfl, ?_, fun _ => ev_var rfl ⟨rfl, rfl⟩, fun _ => rfl⟩⟩
    rw [any_eN]
    show _ = decide (Adj E j k)
    rw [dec_adj, e1]
    rfl
def R__law_deeds : List PyData → (PyData → Prop) → Prop := fun ds Pw => ∃ (n : Nat) (E : Edges) (r : Nat) (h : List Int), ds = [webD n E, .int r, encI h] ∧ Web n E ∧ h.length = n ∧ Pw (.list ((deedsL n E r h).map encD))
def someL (n : Nat) (E : Edges) (h : List Int) (k : Nat) : List Int := (((List.range n).filter fun j => decide (Adj E j k)).map (at0 h)) ++ [at0 h k]
theorem min_some {n : Nat} {E : Edges} {h : List Int} {k : Nat} {m : Int} (h1 : m ∈ someL n E h k) (h2 : ∀ x ∈ someL n E h k, m ≤ x) : decide (m = at0 h k) = (List.range n).all fun j => !decide (Adj E j k) || decide (at0 h k ≤ at0 h j) := by
  unfold someL at h1 h2
  rw [Bool.eq_iff_iff, all_adj, decide_eq_true_iff]
  constructor
  · rintro rfl j hj ha
    exact decide_eq_true (h2 _ (List.mem_append_left _ (List.mem_map.mpr ⟨j, List.mem_filter.mpr ⟨List.mem_range.mpr hj, decide_eq_true ha⟩, rfl⟩)))
  · intro H
    have := h2 (at0 h k) (List.mem_append_right _ List.mem_cons_self)
    rcases List.mem_append.mp h1 with z | z
    · obtain ⟨j, hj, rfl⟩ := List.mem_map.mp z
      obtain ⟨a, b⟩ := List.mem_filter.mp hj
      have := of_decide_eq_true (H j (List.mem_range.mp a) (of_decide_eq_true b))
      omega
    · exact List.mem_singleton.mp z
theorem max_some {n : Nat} {E : Edges} {h : List Int} {k : Nat} {m : Int} (h1 : m ∈ someL n E h k) (h2 : ∀ x ∈ someL n E h k, x ≤ m) : decide (m = at0 h k) = (List.range n).all fun j => !decide (Adj E j k) || decide (at0 h j ≤ at0 h k) := by
  unfold someL at h1 h2
  rw [Bool.eq_iff_iff, all_adj, decide_eq_true_iff]
  constructor
  · rintro rfl j hj ha
    exact decide_eq_true (h2 _ (List.mem_append_left _ (List.mem_map.mpr ⟨j, List.mem_filter.mpr ⟨List.mem_range.mpr hj, decide_eq_true ha⟩, rfl⟩)))
  · intro H
    have := h2 (at0 h k) (List.mem_append_right _ List.mem_cons_self)
    rcases List.mem_append.mp h1 with z | z
    · obtain ⟨j, hj, rfl⟩ := List.mem_map.mp z
      obtain ⟨a, b⟩ := List.mem_filter.mp hj
      have := of_decide_eq_true (H j (List.mem_range.mp a) (of_decide_eq_true b))
      omega
    · exact List.mem_singleton.mp z
def upTo (n : Nat) (E : Edges) (r : Nat) (h : List Int) (i : Nat) : List Deed := ((List.range i).filter (canUp n E r h)).map fun k => (true, k)
def dnTo (n : Nat) (E : Edges) (h : List Int) (i : Nat) : List Deed := ((List.range i).filter (canDn n E h)).map fun k => (false, k)
theorem upTo_succ {n : Nat} {E : Edges} {r : Nat} {h : List Int} {i : Nat} : upTo n E r h (i + 1) = upTo n E r h i ++ if canUp n E r h i = true then [(true, i)] else [] := by
  unfold upTo
  rw [filter_range_succ, List.map_append]
  split <;> rfl
theorem dnTo_succ {n : Nat} {E : Edges} {h : List Int} {i : Nat} : dnTo n E h (i + 1) = dnTo n E h i ++ if canDn n E h i = true then [(false, i)] else [] := by
  unfold dnTo
  rw [filter_range_succ, List.map_append]
  split <;> rfl
theorem upTo_len {n : Nat} {E : Edges} {r : Nat} {h : List Int} {i : Nat} : (upTo n E r h i).length ≤ i := by
  unfold upTo
  have := filter_len (xs := List.range i) (c := canUp n E r h)
  rw [List.length_range] at this
  rw [List.length_map]
  exact this
theorem dnTo_len {n : Nat} {E : Edges} {h : List Int} {i : Nat} : (dnTo n E h i).length ≤ i := by
  unfold dnTo
  have := filter_len (xs := List.range i) (c := canDn n E h)
  rw [List.length_range] at this
  rw [List.length_map]
  exact this
theorem w__law_deeds (B : Bi mg) (D : DefG K mg "_law_deeds" s__law_deeds) (C__law_beside : Cal P w K mg base 1 "_law_beside" ["_law_web", "_law_place"] (spP K 2 R__law_beside)) : Cal P w K mg base 2 "_law_deeds" ["_law_web", "_law_roof", "_law_heights_here"] (spP K 3 R__law_deeds) := by
  refine mk_cal (k := 1) (N := ["_law_web", "_law_roof", "_law_heights_here", "_law_up", "_law_down", "_law_k", "_law_some", "_law_j"]) R__law_deeds D sc__law_deeds (fun _ _ _ _ _ _ us hl => match us, hl with | [_, _, _], _ => rfl) (fun f cdv A outer s H E hr => ⟨_, (pss_cons (ps_par (i := 3) (j := 4) rfl sc__law_deeds.nd rfl rfl (by decide) rfl rfl (pa_cons (pe_lst pa_nil) (pa_cons (pe_lst pa_nil) pa_nil)) (by rfl))
      (pss_cons (ps_for PassesOwn.never rfl (pi_range1 (by rfl) B.range (pa_cons (pe_ix (kix_seq K rfl) (pv 0) pe_int (fun _ _ => rfl)) pa_nil)) (pg_name (i := 5) sc__law_deeds.nd rfl (by first | exact .inl rfl | exact .inr rfl)) (pss_cons (ps_set (i := 6) sc__law_deeds.nd rfl (by first | exact .inl rfl | exact .inr rfl) (pe_op op_cat (pe_lc (own := [("_law_j", 7)]) rfl sc__law_deeds.nd (kpi_list K rfl (pe_cal (C__law_beside.mono (by decide)) hr (by rfl) (pa_cons (pv 0) (pa_cons (pv 5) pa_nil)))) (blkOk_by (N := ["_law_web", "_law_roof", "_law_heights_here", "_law_up", "_law_down", "_law_k", "_law_some", "_law_j"]) (sc := defScope s__law_deeds) (by decide +kernel)) (fun _ _ _ _ _ => (pg_name (i := 7) sc__law_deeds.nd rfl (by first | exact .inl rfl | exact .inr rfl))) (fun _ _ _ _ _ => pts_nil) (fun _ _ _ _ _ => (pe_ix (kix_seq K rfl) (pv 2) (pv 7) (fun _ _ => rfl)))) (pe_lst (pa_cons (pe_ix (kix_seq K rfl) (pv 2) (pv 5) (fun _ _ => rfl)) pa_nil))))
      (pss_cons (ps_set (i := 3) sc__law_deeds.nd rfl (by first | exact .inl rfl | exact .inr rfl) (pe_op op_cat (pv 3) (pe_ifExp (PW.pt (pw_and (pt_cmpR op_lt (pe_ix (kix_seq K rfl) (pv 2) (pv 5) (fun _ _ => rfl)) (pv 1) (nomark _)) (pw_and1 (pt_cmpR (kop_eqD K rfl hr.units) (pe_callB (kcr_min K rfl rfl) (by rfl) B.min (by decide +kernel) (pa_cons (pv 6) pa_nil)) (pe_ix (kix_seq K rfl) (pv 2) (pv 5) (fun _ _ => rfl)) (nomark _))))) (pe_lst (pa_cons (pe_tup (pa_cons pe_bl (pa_cons (pv 5) pa_nil))) pa_nil)) (pe_lst pa_nil))))
      (pss_one (ps_set (i := 4) sc__law_deeds.nd rfl (by first | exact .inl rfl | exact .inr rfl) (pe_op op_cat (pv 4) (pe_ifExp (PW.pt (pw_and (pt_cmpR op_gt (pe_ix (kix_seq K rfl) (pv 2) (pv 5) (fun _ _ => rfl)) pe_int (nomark _)) (pw_and1 (pt_cmpR (kop_eqD K rfl hr.units) (pe_callB (kcr_max K rfl rfl) (by rfl) B.max (by decide +kernel) (pa_cons (pv 6) pa_nil)) (pe_ix (kix_seq K rfl) (pv 2) (pv 5) (fun _ _ => rfl)) (nomark _))))) (pe_lst (pa_cons (pe_tup (pa_cons pe_bl (pa_cons (pv 5) pa_nil))) pa_nil)) (pe_lst pa_nil))))))))
      (pss_one (ps_ret (pe_op op_cat (pv 3) (pv 4)))))), fun ds Pw hl hR => ?_⟩)
  obtain ⟨n, E, r, h, rfl, W, hn, hp⟩ := hR
  have n4 := W.n4
  refine es_seq <| es_par <| ea_cons <| ev_lst <| ea_nil ⟨by simp, ea_cons <| ev_lst <| ea_nil ⟨by simp, ea_nil ⟨_, _, rfl, ?_⟩⟩⟩
  refine es_seq <| es_for (js := [5]) <| ei_r1 <| ea_cons <| ev_op <| ev_var rfl <| ev_int <| rd_ixT rfl <| ea_nil ⟨_, rfl, by omega, by omega, fun i ρ' => ∃ x y z, ρ' = [.da (webD n E), .da (.int r), .da (encI h), .da (.list ((upTo n E r h i).map encD)), .da (.list ((dnTo n E h i).map encD)), x, y, z], fun _ _ _ => trivial, ⟨_, _, _, rfl⟩, ?_, ?_⟩
  · rintro i d ρ' hd ⟨x, y, z, rfl⟩
    have hi : i < n := by
      have := (List.getElem?_eq_some_iff.mp hd).1
      rw [rngD_len] at this
      omega
    rw [rngD_get (by omega), Int.zero_add] at hd
    cases hd
    have l1 := upTo_len (n := n) (E := E) (r := r) (h := h) (i := i)
    have l2 := dnTo_len (n := n) (E := E) (h := h) (i := i)
    have l3 := filter_len (xs := List.range n) (c := fun j => decide (Adj E j i))
    rw [List.length_range] at l3
    refine g_name <| es_seq <| es_set <| ev_op <| ev_lcP (α := Nat) (js := [7]) (by decide) <| ei_list <| ev_call <| ea_cons <| ev_var rfl <| ea_cons <| ev_var rfl <| ea_nil ⟨rfl, n, E, i, rfl, by omega, _, rfl, (List.range n).filter fun j => decide (Adj E j i), iN, fun _ => true, fun j => .int (at0 h j), trivial, rfl, by omega, ?_, ?_⟩
    · intro j hj
      have hj : j < n := List.mem_range.mp (List.mem_filter.mp hj).1
      exact g_name <| et_yes ⟨rfl, Br.t <| ev_op <| ev_var rfl <| ev_var rfl <| rd_ixT (atH (by omega)) ⟨rfl, rfl⟩⟩
    · rw [filter_true]
      refine ev_lst <| ea_cons <| ev_op <| ev_var rfl <| ev_var rfl <| rd_ixT (atH (by omega)) <| ea_nil ⟨by simp, rd_cat (by rw [List.length_map, List.length_singleton]; omega) ?_⟩
      have es : ((List.range n).filter fun j => decide (Adj E j i)).map (fun j => PyData.int (at0 h j)) ++ [PyData.int (at0 h i)] = (someL n E h i).map PyData.int := by
        unfold someL
        rw [List.map_append, List.map_map]
        rfl
      rw [es]
      have sl : 0 < (someL n E h i).length := by unfold someL; rw [List.length_append, List.length_singleton]; omega
      -- up
      have up : Ev K (tIf (tAnd (tTest (tOp (rI0 fun i j => V.bl (decide (i < j))) (tOp (rIx K) (tVar 2) (tVar 5)) (tVar 1))) (tTest (tOp (rEqD K) (tCB (rMin K) (tCons (tVar 6) tNil)) (tOp (rIx K) (tVar 2) (tVar 5))))) (tLst (tCons (tTup (tCons (tC (V.bl true)) (tCons (tVar 5) tNil))) tNil)) (tLst tNil))
          [.da (webD n E), .da (.int r), .da (encI h), .da (.list ((upTo n E r h i).map encD)), .da (.list ((dnTo n E h i).map encD)), .da (iN i), .da (.list ((someL n E h i).map PyData.int)), .un]
          fun d ρ1 => d = .list ((if canUp n E r h i = true then [(true, i)] else []).map encD) ∧ ρ1 = [.da (webD n E), .da (.int r), .da (encI h), .da (.list ((upTo n E r h i).map encD)), .da (.list ((dnTo n E h i).map encD)), .da (iN i), .da (.list ((someL n E h i).map PyData.int)), .un] := by
        refine ev_if <| et_and <| et_test <| ev_op <| ev_op <| ev_var rfl <| ev_var rfl <| rd_ixT (atH (by omega)) <| ev_var rfl <| rd_b ⟨_, rfl, fun e1 => ?_, fun e1 => ?_⟩
        · refine et_test <| ev_op <| ev_cb <| ea_cons <| ev_var rfl <| ea_nil <| rc_minI sl fun m m1 m2 => ev_op <| ev_var rfl <| ev_var rfl <| rd_ixT (atH (by omega)) <| rd_eq okI okI ⟨_, rfl, ?_⟩
          rw [eqv_int, min_some m1 m2]
          have ec : canUp n E r h i = ((List.range n).all fun j => !decide (Adj E j i) || decide (at0 h i ≤ at0 h j)) := by
            unfold canUp
            rw [e1, Bool.true_and]
          rw [← ec]
          refine ⟨fun e2 => ?_, fun e2 => ?_⟩
          · rw [if_pos e2]
            exact ev_lst <| ea_cons <| ev_tup <| ea_cons <| ev_bl <| ea_cons <| ev_var rfl <| ea_nil ⟨by simp, ea_nil ⟨by simp, rfl, rfl⟩⟩
          · rw [if_neg (by rw [e2]; exact Bool.false_ne_true)]
            exact ev_lst <| ea_nil ⟨by simp, rfl, rfl⟩
        · have ec : canUp n E r h i = false := by
            unfold canUp
            rw [e1, Bool.false_and]
          rw [if_neg (by rw [ec]; exact Bool.false_ne_true)]
          exact Br.f <| ev_lst <| ea_nil ⟨by simp, rfl, rfl⟩
      refine es_seq <| es_set <| ev_op <| ev_var rfl <| fun G H σ Q st k => up G H σ Q st fun v d ρ' G' H' n1 r1 ⟨e1, e2⟩ => k v d ρ' G' H' n1 r1 ?_
      subst e1 e2
      refine rd_cat (by rw [List.length_map, List.length_map]; split <;> simp <;> omega) ?_
      rw [← List.map_append, ← upTo_succ]
      -- down
      refine es_set <| ev_op <| ev_var rfl <| ev_if <| et_and <| et_test <| ev_op <| ev_op <| ev_var rfl <| ev_var rfl <| rd_ixT (atH (by omega)) <| ev_int <| rd_b ⟨_, rfl, fun e1 => ?_, fun e1 => ?_⟩
      · refine et_test <| ev_op <| ev_cb <| ea_cons <| ev_var rfl <| ea_nil <| rc_maxI sl fun m m1 m2 => ev_op <| ev_var rfl <| ev_var rfl <| rd_ixT (atH (by omega)) <| rd_eq okI okI ⟨_, rfl, ?_⟩
        rw [eqv_int, max_some m1 m2]
        have ec : canDn n E h i = ((List.range n).all fun j => !decide (Adj E j i) || decide (at0 h j ≤ at0 h i)) := by
          unfold canDn
          rw [e1, Bool.true_and]
        rw [← ec]
        refine ⟨fun e2 => ?_, fun e2 => ?_⟩
        · refine ev_lst <| ea_cons <| ev_tup <| ea_cons <| ev_bl <| ea_cons <| ev_var rfl <| ea_nil ⟨by simp, ea_nil ⟨by simp, rd_cat (by simp; omega) ⟨.da (iN i), .da (.list ((someL n E h i).map PyData.int)), .un, ?_⟩⟩⟩
          rw [dnTo_succ, if_pos e2, List.map_append]
          rfl
        · refine ev_lst <| ea_nil ⟨by simp, rd_cat (by simp; omega) ⟨.da (iN i), .da (.list ((someL n E h i).map PyData.int)), .un, ?_⟩⟩
          rw [dnTo_succ, if_neg (by rw [e2]; exact Bool.false_ne_true), List.append_nil, List.append_nil]
          rfl
      · have ec : canDn n E h i = false := by
          unfold canDn
          rw [e1, Bool.false_and]
        refine Br.f <| ev_lst <| ea_nil ⟨by simp, rd_cat (by simp; omega) ⟨.da (iN i), .da (.list ((someL n E h i).map PyData.int)), .un, ?_⟩⟩
        rw [dnTo_succ, if_neg (by rw [ec]; exact Bool.false_ne_true), List.append_nil, List.append_nil]
        rfl
  · rintro ρ' ⟨x, y, z, rfl⟩
    rw [rngD_len, Int.toNat_natCast]
    have l1 := upTo_len (n := n) (E := E) (r := r) (h := h) (i := n)
    have l2 := dnTo_len (n := n) (E := E) (h := h) (i := n)
    refine es_ret <| ev_op <| ev_var rfl <| ev_var rfl <| rd_cat (by rw [List.length_map, List.length_map]; omega) ?_
    rw [← List.map_append]
    exact hp
def aftD (h : List Int) (d : Deed) : PyData := .tuple [encD d, encI (step h d)]
def R__law_after : List PyData → (PyData → Prop) → Prop := fun ds Pw => ∃ (n : Nat) (E : Edges) (r : Nat) (h : List Int), ds = [webD n E, .int r, encI h] ∧ Web n E ∧ h.length = n ∧ Pw (.list ((deedsL n E r h).map (aftD h)))
theorem w__law_after (B : Bi mg) (D : DefG K mg "_law_after" s__law_after) (C__law_deeds : Cal P w K mg base 2 "_law_deeds" ["_law_web", "_law_roof", "_law_heights_here"] (spP K 3 R__law_deeds)) (C__law_step : Cal P w K mg base 1 "_law_step" ["_law_heights_here", "_law_deed"] (spP K 2 R__law_step)) : Cal P w K mg base 3 "_law_after" ["_law_web", "_law_roof", "_law_heights_here"] (spP K 3 R__law_after) := by
  refine mk_cal (k := 2) (N := ["_law_web", "_law_roof", "_law_heights_here", "_law_deed"]) R__law_after D sc__law_after (fun _ _ _ _ _ _ us hl => match us, hl with | [_, _, _], _ => rfl) (fun f cdv A outer s H E hr => ⟨_, (pss_one (ps_ret (pe_lc (own := [("_law_deed", 3)]) rfl sc__law_after.nd (kpi_list K rfl (pe_cal (C__law_deeds.mono (by decide)) hr (by rfl) (pa_cons (pv 0) (pa_cons (pv 1) (pa_cons (pv 2) pa_nil))))) (blkOk_by (N := ["_law_web", "_law_roof", "_law_heights_here", "_law_deed"]) (sc := defScope s__law_after) (by decide +kernel)) (fun _ _ _ _ _ => (pg_name (i := 3) sc__law_after.nd rfl (by first | exact .inl rfl | exact .inr rfl))) (fun _ _ _ _ _ => pts_nil) (fun _ _ _ _ _ => (pe_tup (pa_cons (pv 3) (pa_cons (pe_cal (C__law_step.mono (by decide)) hr (by rfl) (pa_cons (pv 2) (pa_cons (pv 3) pa_nil))) pa_nil))))))), fun ds Pw hl hR => ?_⟩)
  obtain ⟨n, E, r, h, rfl, W, hn, hp⟩ := hR
  have n4 := W.n4
  have dl := deedsL_len (n := n) (E := E) (r := r) (h := h)
  refine es_ret <| ev_lcP (α := Deed) (js := [3]) (by decide) <| ei_list <| ev_call <| ea_cons <| ev_var rfl <| ea_cons <| ev_var rfl <| ea_cons <| ev_var rfl <| ea_nil ⟨rfl, n, E, r, h, rfl, W, hn, _, rfl, deedsL n E r h, encD, fun _ => true, aftD h, trivial, rfl, by omega, ?_, by rw [filter_true]; exact hp⟩
  intro d hd
  have hk := deed_lt hd
  exact g_name <| et_yes ⟨rfl, Br.t <| ev_tup <| ea_cons <| ev_var rfl <| ea_cons <| ev_call <| ea_cons <| ev_var rfl <| ea_cons <| ev_var rfl <| ea_nil ⟨rfl, h, d, rfl, by omega, ea_nil ⟨by simp, rfl, rfl⟩⟩⟩
end
end Lv
/-! Ld7: what the law draws: webs, heights, prices, ends, words. -/
namespace Lv
open PySem PySem.Spec PyProof.Rows L2 Lw
section
variable {K : PySem.W.Frag} {ρ : List En} {te : TE} {t u : TS}
theorem Ev.mono {P P' : Pd} (h : Ev K te ρ P) (q : ∀ d ρ', P d ρ' → P' d ρ') : Ev K te ρ P' := fun G H σ Q st k => h G H σ Q st fun v d ρ' G' H' n r p => k v d ρ' G' H' n r (q d ρ' p)
theorem es_seqM {P : EndD} (S : List En → Prop) (h : Es K t ρ { P with nx := S }) (q : ∀ ρ', S ρ' → Es K u ρ' P) : Es K (tSeq t u) ρ P :=
  es_seq fun G H σ D st k1 k2 k3 k4 => h G H σ D st (fun σ' ρ' G' H' n p => k1 σ' ρ' G' H' n (q ρ' p)) k2 k3 k4
end
section
variable {P : Program} {w : World} {K : PySem.W.Frag} {mg : Str → Option Value} {base : Heap}
theorem isH_of {n r : Nat} {h : List Int} (hl : h.length = n) (hv : ∀ v ∈ h, 0 ≤ v ∧ v ≤ r) : IsH n r h := by
  have g : ∀ k < n, at0 h k ∈ h := fun k hk => by
    have := at0_get (h := h) (k := k) (by omega)
    exact List.mem_of_getElem? this
  exact ⟨hl, fun k hk => (hv _ (g k hk)).1, fun k hk => (hv _ (g k hk)).2⟩
def R__law_heights : List PyData → List PyData → (PyData → List PyData → Prop) → Prop := fun row ds Pw => ∃ n r : Nat, ds = [.int n, .int r] ∧ n ≤ 4 ∧ r ≤ 9 ∧ RowOk row ∧ ∀ h row', IsH n r h → RowOk row' → Pw (encI h) row'
theorem w__law_heights (B : Bi mg) (D : DefG K mg "_law_heights" s__law_heights) (C__law_taken : Cal P w K mg base 1 "_law_taken" ["_law_row", "_law_many_here"] (spR K 1 R__law_taken)) : Cal P w K mg base 2 "_law_heights" ["_law_row", "_law_many_here", "_law_roof"] (spR K 2 R__law_heights) := by
  refine mk_calR (k := 1) (N := ["_law_row", "_law_many_here", "_law_roof", "_law_way", "_law_found", "_law_k", "_law_near"]) R__law_heights D sc__law_heights (fun _ _ _ _ _ _ us hl => match us, hl with | [_, _, _], _ => rfl) (fun f cdv A outer s H E hr => ⟨_, (pss_cons (ps_par (i := 3) (j := 4) rfl sc__law_heights.nd rfl rfl (by decide) rfl rfl (pa_cons (pe_cal (C__law_taken.mono (by decide)) hr (by rfl) (pa_cons (pv 0) (pa_cons pe_int pa_nil))) (pa_cons (pe_lst pa_nil) pa_nil)) (by rfl))
      (pss_cons (ps_for PassesOwn.never rfl (pi_range1 (by rfl) B.range (pa_cons (pv 1) pa_nil)) (pg_name (i := 5) sc__law_heights.nd rfl (by first | exact .inl rfl | exact .inr rfl)) (pss_cons (ps_set (i := 6) sc__law_heights.nd rfl (by first | exact .inl rfl | exact .inr rfl) (pe_ifExp (pt_cmpR (kop_neD K rfl hr.units) (pv 4) (pe_lst pa_nil) (nomark _)) (pe_op op_sub (pe_op op_add (pe_ix (kix_seq K rfl) (pv 4) (pe_un un_neg pe_int) (fun _ _ => rfl)) (pe_cal (C__law_taken.mono (by decide)) hr (by rfl) (pa_cons (pv 0) (pa_cons pe_int pa_nil)))) pe_int) (pe_cal (C__law_taken.mono (by decide)) hr (by rfl) (pa_cons (pv 0) (pa_cons (pe_op op_add (pv 2) pe_int) pa_nil)))))
      (pss_one (ps_expr (pe_bm PySem.F.plainAttrs_list PySem.F.slot_list_append PySem.F.type_list_append mt_append (pv 4) (pa_cons (pe_ifExp (pt_cmpR (kop_eqD K rfl hr.units) (pv 3) pe_int (nomark _)) (pe_callB (call_max2 rfl) (by rfl) B.max (by decide +kernel) (pa_cons pe_int (pa_cons (pe_callB (call_min2 rfl) (by rfl) B.min (by decide +kernel) (pa_cons (pv 2) (pa_cons (pv 6) pa_nil))) pa_nil))) (pe_cal (C__law_taken.mono (by decide)) hr (by rfl) (pa_cons (pv 0) (pa_cons (pe_op op_add (pv 2) pe_int) pa_nil)))) pa_nil))))))
      (pss_one (ps_ret (pe_callTy (kcall_tuple_of K rfl) (by rfl) B.tuple (by decide +kernel) (pa_cons (pv 4) pa_nil)))))), fun a row ds Pw hl hR => ?_⟩)
  obtain ⟨n, r, rfl, n4, r9, ok, hp⟩ := hR
  refine es_seq <| es_parN (by decide) <| ev_callR rfl <| ea_cons <| ev_int <| ea_nil ⟨row, rfl, rfl, 3, rfl, by decide, by decide, ok, fun x row1 x0 x1 ok1 => en_lst <| ea_nil ⟨by simp, fun l no => ?_⟩⟩
  refine es_seq <| es_for (js := [5]) <| ei_r1 <| ea_cons <| ev_var rfl <| ea_nil ⟨_, rfl, by omega, by omega, fun i ρ' => ∃ row h y z, ρ' = [.ow a (.ls row), .da (.int n), .da (.int r), .da (.int x), .ow l (.ls (h.map .int)), y, z] ∧ RowOk row ∧ h.length = i ∧ ∀ v ∈ h, 0 ≤ v ∧ v ≤ (r : Int), fun _ _ _ => trivial, ⟨_, [], _, _, rfl, ok1, rfl, fun _ z => nomatch z⟩, ?_, ?_⟩
  · rintro i d ρ' hd ⟨row, h, y, z, rfl, ok, hl2, hv⟩
    have hi : i < n := by
      have := (List.getElem?_eq_some_iff.mp hd).1
      rw [rngD_len] at this
      omega
    refine g_name <| es_seq <| es_set <| Ev.mono (P := fun e ρ1 => ∃ v row, e = .int v ∧ RowOk row ∧ ρ1 = [.ow a (.ls row), .da (.int n), .da (.int r), .da (.int x), .ow l (.ls (h.map .int)), .da d, z]) ?_ ?_
    · refine ev_if <| et_test <| ev_neO rfl (okM fun _ => Sh.int) <| ev_lst <| ea_nil ⟨by simp, okNil, rfl, _, rfl, fun e => ?_, fun e => ?_⟩
      · rw [eqv_mapNil] at e
        have hne : h ≠ [] := by
          intro q
          rw [q] at e
          cases e
        obtain ⟨v0, last⟩ : ∃ v, atI (h.map PyData.int) (-1) = some (.int v) := by
          obtain ⟨pre, v, e⟩ : ∃ pre v, h = pre ++ [v] := ⟨_, _, (List.dropLast_concat_getLast hne).symm⟩
          exact ⟨v, by rw [e, List.map_append]; exact atI_last _ _⟩
        exact ev_op <| ev_op <| ev_ixO (ev_un <| ev_int <| ru_neg ⟨_, l, _, _, rfl, rfl, rfl, last, ev_callR rfl <| ea_cons <| ev_int <| ea_nil ⟨row, rfl, rfl, 5, rfl, by decide, by decide, ok, fun v row1 v0 v1 ok1 => rd_i <| ev_int <| rd_i ⟨_, row1, rfl, ok1, rfl⟩⟩⟩) ⟨_, _, rfl⟩
      · exact ev_callR rfl <| ea_cons <| ev_op <| ev_var rfl <| ev_int <| rd_i <| ea_nil ⟨row, rfl, rfl, _, rfl, by omega, by omega, ok, fun v row1 v0 v1 ok1 => ⟨_, row1, rfl, ok1, rfl⟩⟩
    · rintro e ρ1 ⟨v, row, rfl, ok, rfl⟩
      refine es_app ⟨_, rfl⟩ <| ev_if <| et_test <| ev_op <| ev_var rfl <| ev_int <| rd_eq okI okI ⟨_, rfl, fun e1 => ?_, fun e1 => ?_⟩
      · refine ev_cb <| ea_cons <| ev_int <| ea_cons <| ev_cb <| ea_cons <| ev_var rfl <| ea_cons <| ev_var rfl <| ea_nil <| rc_min2 <| ea_nil <| rc_max2 ⟨_, rfl, by rw [List.length_map]; omega, row, h ++ [if (if v < (r : Int) then v else (r : Int)) > 0 then (if v < (r : Int) then v else (r : Int)) else 0], .da d, .da (.int v), ?_, ok, by rw [List.length_append, hl2]; rfl, fun u hu => ?_⟩
        · rw [List.map_append]
          rfl
        · rcases List.mem_append.mp hu with hu | hu
          · exact hv u hu
          · rw [List.mem_singleton.mp hu]
            constructor <;> (split <;> split <;> omega)
      · refine ev_callR rfl <| ea_cons <| ev_op <| ev_var rfl <| ev_int <| rd_i <| ea_nil ⟨row, rfl, rfl, _, rfl, by omega, by omega, ok, fun u row1 u0 u1 ok1 => ⟨_, rfl, by rw [List.length_map]; omega, row1, h ++ [u], .da d, .da (.int v), ?_, ok1, by rw [List.length_append, hl2]; rfl, fun u' hu => ?_⟩⟩
        · rw [List.map_append]
          rfl
        · rcases List.mem_append.mp hu with hu | hu
          · exact hv u' hu
          · rw [List.mem_singleton.mp hu]
            constructor <;> omega
  · rintro ρ' ⟨row, h, y, z, rfl, ok, hl2, hv⟩
    rw [rngD_len, Int.toNat_natCast] at hl2
    exact es_ret <| ev_cb <| ea_cons <| ev_take rfl <| ea_nil <| rc_tupL ⟨row, rfl, hp h row (isH_of hl2 hv) ok⟩
def R__law_prices : List PyData → List PyData → (PyData → List PyData → Prop) → Prop := fun row ds Pw => ∃ (n : Nat) (E : Edges), ds = [webD n E] ∧ n ≤ 4 ∧ RowOk row ∧ ∀ p row', IsP n p → RowOk row' → Pw (.tuple (p.map encE)) row'
theorem isP_of {n : Nat} {p : List (Int × Int)} (hl : p.length = n) (hv : ∀ e ∈ p, (0 ≤ e.1 ∧ e.1 ≤ 1000) ∧ (0 ≤ e.2 ∧ e.2 ≤ 1000)) : IsP n p := by
  have g : ∀ k < n, pr p k ∈ p := fun k hk => List.mem_of_getElem? (pr_get (p := p) (k := k) (by omega))
  exact ⟨hl, fun k hk => ⟨(hv _ (g k hk)).1.1, (hv _ (g k hk)).2.1⟩, fun k hk => ⟨(hv _ (g k hk)).1.2, (hv _ (g k hk)).2.2⟩⟩
theorem w__law_prices (B : Bi mg) (D : DefG K mg "_law_prices" s__law_prices) (C__law_pick : Cal P w K mg base 2 "_law_pick" ["_law_row", "_law_things"] (spR K 1 R__law_pick)) (C__law_taken : Cal P w K mg base 1 "_law_taken" ["_law_row", "_law_many_here"] (spR K 1 R__law_taken)) : Cal P w K mg base 3 "_law_prices" ["_law_row", "_law_web"] (spR K 1 R__law_prices) := by
  refine mk_calR (k := 2) (N := ["_law_row", "_law_web", "_law_top", "_law_k"]) R__law_prices D sc__law_prices (fun _ _ _ _ _ _ us hl => match us, hl with | [_, _], _ => rfl) (fun f cdv A outer s H E hr => ⟨_, (pss_cons (ps_set (i := 2) sc__law_prices.nd rfl (by first | exact .inl rfl | exact .inr rfl) (pe_cal (C__law_pick.mono (by decide)) hr (by rfl) (pa_cons (pv 0) (pa_cons (pe_lst (pa_cons pe_int (pa_cons pe_int (pa_cons pe_int pa_nil)))) pa_nil))))
      (pss_one (ps_ret (pe_callTy (kcall_tuple_of K rfl) (by rfl) B.tuple (by decide +kernel) (pa_cons (pe_lc (own := [("_law_k", 3)]) rfl sc__law_prices.nd (pi_range1 (by rfl) B.range (pa_cons (pe_ix (kix_seq K rfl) (pv 1) pe_int (fun _ _ => rfl)) pa_nil)) (blkOk_by (N := ["_law_row", "_law_web", "_law_top", "_law_k"]) (sc := defScope s__law_prices) (by decide +kernel)) (fun _ _ _ _ _ => (pg_name (i := 3) sc__law_prices.nd rfl (by first | exact .inl rfl | exact .inr rfl))) (fun _ _ _ _ _ => pts_nil) (fun _ _ _ _ _ => (pe_tup (pa_cons (pe_cal (C__law_taken.mono (by decide)) hr (by rfl) (pa_cons (pv 0) (pa_cons (pv 2) pa_nil))) (pa_cons (pe_cal (C__law_taken.mono (by decide)) hr (by rfl) (pa_cons (pv 0) (pa_cons (pv 2) pa_nil))) pa_nil))))) pa_nil))))), fun a row ds Pw hl hR => ?_⟩)
  obtain ⟨n, E, rfl, n4, ok, hp⟩ := hR
  refine es_seq <| es_set <| ev_callR rfl <| ea_cons <| ev_lst <| ea_cons <| ev_int <| ea_cons <| ev_int <| ea_cons <| ev_int <| ea_nil ⟨by simp, ea_nil ⟨row, rfl, rfl, _, rfl, by simp, by simp, ok, fun x row1 hx ok1 => ?_⟩⟩
  obtain ⟨t, rfl, t1, t2⟩ : ∃ t : Int, x = .int t ∧ 1 ≤ t ∧ t ≤ 1001 := by
    simp only [List.mem_cons, List.not_mem_nil, or_false] at hx
    rcases hx with rfl | rfl | rfl
    · exact ⟨2, rfl, by decide, by decide⟩
    · exact ⟨9, rfl, by decide, by decide⟩
    · exact ⟨1001, rfl, by decide, by decide⟩
  refine es_ret <| ev_cb <| ea_cons <| ev_lc (js := [3]) (by decide) <| ei_r1 <| ea_cons <| ev_op <| ev_var rfl <| ev_int <| rd_ixT rfl <| ea_nil ⟨_, rfl, by omega, by omega, fun i acc ρ' => ∃ row q, ρ' = [.ow a (.ls row), .da (webD n E), .da (.int t), .un] ∧ acc = q.map encE ∧ q.length = i ∧ RowOk row ∧ ∀ e ∈ q, (0 ≤ e.1 ∧ e.1 ≤ 1000) ∧ (0 ≤ e.2 ∧ e.2 ≤ 1000), fun _ _ _ _ => trivial, by rw [rngD_len]; omega, ⟨row1, [], rfl, rfl, rfl, ok1, fun _ z => nomatch z⟩, ?_, ?_⟩
  · rintro i acc d ρ' hd ⟨row, q, rfl, rfl, hl2, ok, hv⟩
    refine g_name <| et_yes <| Br.t <| ev_tup <| ea_cons <| ev_callR rfl <| ea_cons <| ev_var rfl <| ea_nil ⟨row, rfl, rfl, t, rfl, t1, by omega, ok, fun u row2 u0 u1 ok2 => ea_cons <| ev_callR rfl <| ea_cons <| ev_var rfl <| ea_nil ⟨row2, rfl, rfl, t, rfl, t1, by omega, ok2, fun v row3 v0 v1 ok3 => ea_nil ⟨by simp, row3, q ++ [(u, v)], rfl, by rw [List.map_append]; rfl, by rw [List.length_append, hl2]; rfl, ok3, fun e he => ?_⟩⟩⟩
    rcases List.mem_append.mp he with he | he
    · exact hv e he
    · rw [List.mem_singleton.mp he]
      exact ⟨⟨u0, by show u ≤ 1000; omega⟩, ⟨v0, by show v ≤ 1000; omega⟩⟩
  · rintro acc ρ' ⟨row, q, rfl, rfl, hl2, ok, hv⟩
    rw [rngD_len, Int.toNat_natCast] at hl2
    exact ea_nil <| rc_tupL ⟨row, rfl, hp q row (isP_of hl2 hv) ok⟩
def R__law_there : List PyData → List PyData → (PyData → List PyData → Prop) → Prop := fun row ds Pw => ∃ (n r : Nat) (E : Edges) (h : List Int), ds = [webD n E, .int r, encI h] ∧ Tab n r E ∧ IsH n r h ∧ RowOk row ∧ ∀ h' row', IsH n r h' → RowOk row' → Pw (encI h') row'
theorem map_ne {α β : Type} {f : α → β} {xs : List α} (h : xs ≠ []) : xs.map f ≠ [] := fun z => h (List.map_eq_nil_iff.mp z)
theorem w__law_there (B : Bi mg) (D : DefG K mg "_law_there" s__law_there) (C__law_after : Cal P w K mg base 3 "_law_after" ["_law_web", "_law_roof", "_law_heights_here"] (spP K 3 R__law_after)) (C__law_heights : Cal P w K mg base 2 "_law_heights" ["_law_row", "_law_many_here", "_law_roof"] (spR K 2 R__law_heights)) (C__law_pick : Cal P w K mg base 2 "_law_pick" ["_law_row", "_law_things"] (spR K 1 R__law_pick)) (C__law_taken : Cal P w K mg base 1 "_law_taken" ["_law_row", "_law_many_here"] (spR K 1 R__law_taken)) : Cal P w K mg base 4 "_law_there" ["_law_row", "_law_web", "_law_roof", "_law_heights_here"] (spR K 3 R__law_there) := by
  refine mk_calR (k := 3) (N := ["_law_row", "_law_web", "_law_roof", "_law_heights_here", "_law_here", "_law_turn"]) R__law_there D sc__law_there (fun _ _ _ _ _ _ us hl => match us, hl with | [_, _, _, _], _ => rfl) (fun f cdv A outer s H E hr => ⟨_, (pss_cons (ps_set (i := 4) sc__law_there.nd rfl (by first | exact .inl rfl | exact .inr rfl) (pv 3))
      (pss_cons (ps_for PassesOwn.never rfl (pi_range1 (by rfl) B.range (pa_cons (pe_cal (C__law_taken.mono (by decide)) hr (by rfl) (pa_cons (pv 0) (pa_cons pe_int pa_nil))) pa_nil)) (pg_name (i := 5) sc__law_there.nd rfl (by first | exact .inl rfl | exact .inr rfl)) (pss_one (ps_set (i := 4) sc__law_there.nd rfl (by first | exact .inl rfl | exact .inr rfl) (pe_ix (kix_seq K rfl) (pe_cal (C__law_pick.mono (by decide)) hr (by rfl) (pa_cons (pv 0) (pa_cons (pe_cal (C__law_after.mono (by decide)) hr (by rfl) (pa_cons (pv 1) (pa_cons (pv 2) (pa_cons (pv 4) pa_nil)))) pa_nil))) pe_int (fun _ _ => rfl)))))
      (pss_one (ps_ret (pe_cal (C__law_pick.mono (by decide)) hr (by rfl) (pa_cons (pv 0) (pa_cons (pe_lst (pa_cons (pv 4) (pa_cons (pv 4) (pa_cons (pv 4) (pa_cons (pe_cal (C__law_heights.mono (by decide)) hr (by rfl) (pa_cons (pv 0) (pa_cons (pe_ix (kix_seq K rfl) (pv 1) pe_int (fun _ _ => rfl)) (pa_cons (pv 2) pa_nil)))) pa_nil))))) pa_nil))))))), fun a row ds Pw hl hR => ?_⟩)
  obtain ⟨n, r, E, h, rfl, T, I, ok, hp⟩ := hR
  have n4 := T.web.n4
  refine es_seq <| es_set <| ev_var rfl ?_
  refine es_seq <| es_for (js := [5]) <| ei_r1 <| ea_cons <| ev_callR rfl <| ea_cons <| ev_int <| ea_nil ⟨row, rfl, rfl, 14, rfl, by decide, by decide, ok, fun x row1 x0 x1 ok1 => ea_nil ⟨x, rfl, by omega, by omega, fun i ρ' => ∃ row h' y, ρ' = [.ow a (.ls row), .da (webD n E), .da (.int r), .da (encI h), .da (encI h'), y] ∧ RowOk row ∧ IsH n r h', fun _ _ _ => trivial, ⟨_, h, _, rfl, ok1, I⟩, ?_, ?_⟩⟩
  · rintro i d ρ' hd ⟨row, h', y, rfl, ok, I'⟩
    have dl := deedsL_len (n := n) (E := E) (r := r) (h := h')
    refine g_name <| es_set <| ev_op <| ev_callR rfl <| ea_cons <| ev_call <| ea_cons <| ev_var rfl <| ea_cons <| ev_var rfl <| ea_cons <| ev_var rfl <| ea_nil ⟨rfl, n, E, r, h', rfl, T.web, I'.len, ea_nil ⟨row, rfl, rfl, _, rfl, map_ne (deeds_ne T.web T.r1 I'), by rw [List.length_map]; omega, ok, fun x row2 hx ok2 => ?_⟩⟩
    obtain ⟨e, he, rfl⟩ := List.mem_map.mp hx
    exact ev_int <| rd_ixT rfl ⟨row2, step h' e, _, rfl, ok2, step_isH I' he⟩
  · rintro ρ' ⟨row, h', y, rfl, ok, I'⟩
    refine es_ret <| ev_callR rfl <| ea_cons <| ev_lst <| ea_cons <| ev_var rfl <| ea_cons <| ev_var rfl <| ea_cons <| ev_var rfl <| ea_cons <| ev_callR rfl <| ea_cons <| ev_op <| ev_var rfl <| ev_int <| rd_ixT rfl <| ea_cons <| ev_var rfl <| ea_nil ⟨row, rfl, rfl, n, r, rfl, n4, T.r9, ok, fun h2 row2 I2 ok2 => ea_nil ⟨by simp, ea_nil ⟨row2, rfl, rfl, _, rfl, by simp, by simp, ok2, fun x row3 hx ok3 => ⟨row3, rfl, ?_⟩⟩⟩⟩
    simp only [List.mem_cons, List.not_mem_nil, or_false] at hx
    rcases hx with rfl | rfl | rfl | rfl
    · exact hp h' row3 I' ok3
    · exact hp h' row3 I' ok3
    · exact hp h' row3 I' ok3
    · exact hp h2 row3 I2 ok3
abbrev encWd (w : List Deed) : PyData := .tuple (w.map encD)
def R__law_word : List PyData → List PyData → (PyData → List PyData → Prop) → Prop := fun row ds Pw => ∃ (n r : Nat) (E : Edges) (h : List Int) (m : Nat), ds = [webD n E, .int r, encI h, .int m] ∧ Tab n r E ∧ IsH n r h ∧ m ≤ 100 ∧ RowOk row ∧ ∀ w row', (∀ d ∈ w, d.2 < n) → w.length ≤ m → RowOk row' → Pw (encWd w) row'
theorem w__law_word (B : Bi mg) (D : DefG K mg "_law_word" s__law_word) (C__law_after : Cal P w K mg base 3 "_law_after" ["_law_web", "_law_roof", "_law_heights_here"] (spP K 3 R__law_after)) (C__law_pick : Cal P w K mg base 2 "_law_pick" ["_law_row", "_law_things"] (spR K 1 R__law_pick)) (C__law_taken : Cal P w K mg base 1 "_law_taken" ["_law_row", "_law_many_here"] (spR K 1 R__law_taken)) : Cal P w K mg base 4 "_law_word" ["_law_row", "_law_web", "_law_roof", "_law_heights_here", "_law_most"] (spR K 4 R__law_word) := by
  refine mk_calR (k := 3) (N := ["_law_row", "_law_web", "_law_roof", "_law_heights_here", "_law_most", "_law_word_here", "_law_here", "_law_turn", "_law_deed"]) R__law_word D sc__law_word (fun _ _ _ _ _ _ us hl => match us, hl with | [_, _, _, _, _], _ => rfl) (fun f cdv A outer s H E hr => ⟨_, (pss_cons (ps_par (i := 5) (j := 6) rfl sc__law_word.nd rfl rfl (by decide) rfl rfl (pa_cons (pe_tup pa_nil) (pa_cons (pv 3) pa_nil)) (by rfl))
      (pss_cons (ps_for PassesOwn.never rfl (pi_range1 (by rfl) B.range (pa_cons (pe_cal (C__law_taken.mono (by decide)) hr (by rfl) (pa_cons (pv 0) (pa_cons (pe_op op_add (pv 4) pe_int) pa_nil))) pa_nil)) (pg_name (i := 7) sc__law_word.nd rfl (by first | exact .inl rfl | exact .inr rfl)) (pss_cons (ps_asg (pe_cal (C__law_pick.mono (by decide)) hr (by rfl) (pa_cons (pv 0) (pa_cons (pe_cal (C__law_after.mono (by decide)) hr (by rfl) (pa_cons (pv 1) (pa_cons (pv 2) (pa_cons (pv 6) pa_nil)))) pa_nil))) (kpg_tup K rfl (n := 2) rfl (pgs_cons (pg_name (i := 8) sc__law_word.nd rfl (by first | exact .inl rfl | exact .inr rfl)) (pgs_cons (pg_name (i := 6) sc__law_word.nd rfl (by first | exact .inl rfl | exact .inr rfl)) pgs_nil))))
      (pss_one (ps_set (i := 5) sc__law_word.nd rfl (by first | exact .inl rfl | exact .inr rfl) (pe_op (kop_catA K rfl) (pv 5) (pe_tup (pa_cons (pv 8) pa_nil)))))))
      (pss_one (ps_ret (pv 5))))), fun a row ds Pw hl hR => ?_⟩)
  obtain ⟨n, r, E, h, m, rfl, T, I, hm, ok, hp⟩ := hR
  have n4 := T.web.n4
  refine es_seq <| es_par <| ea_cons <| ev_tup <| ea_nil ⟨by simp, ea_cons <| ev_var rfl <| ea_nil ⟨_, _, rfl, ?_⟩⟩
  refine es_seq <| es_for (js := [7]) <| ei_r1 <| ea_cons <| ev_callR rfl <| ea_cons <| ev_op <| ev_var rfl <| ev_int <| rd_i <| ea_nil ⟨row, rfl, rfl, _, rfl, by omega, by omega, ok, fun x row1 x0 x1 ok1 => ea_nil ⟨x, rfl, by omega, by omega, fun i ρ' => ∃ row w h' y z, ρ' = [.ow a (.ls row), .da (webD n E), .da (.int r), .da (encI h), .da (.int m), .da (encWd w), .da (encI h'), y, z] ∧ RowOk row ∧ IsH n r h' ∧ w.length = i ∧ ∀ d ∈ w, d.2 < n, fun _ _ _ => trivial, ⟨_, [], h, _, _, rfl, ok1, I, rfl, fun _ z => nomatch z⟩, ?_, ?_⟩⟩
  · rintro i d ρ' hd ⟨row, w, h', y, z, rfl, ok, I', hl2, hv⟩
    have hi : i < x.toNat := by
      have := (List.getElem?_eq_some_iff.mp hd).1
      rw [rngD_len] at this
      exact this
    have dl := deedsL_len (n := n) (E := E) (r := r) (h := h')
    refine g_name <| es_seq <| es_asg (js := [8, 6]) <| ev_callR rfl <| ea_cons <| ev_call <| ea_cons <| ev_var rfl <| ea_cons <| ev_var rfl <| ea_cons <| ev_var rfl <| ea_nil ⟨rfl, n, E, r, h', rfl, T.web, I'.len, ea_nil ⟨row, rfl, rfl, _, rfl, map_ne (deeds_ne T.web T.r1 I'), by rw [List.length_map]; omega, ok, fun x row2 hx ok2 => ?_⟩⟩
    obtain ⟨e, he, rfl⟩ := List.mem_map.mp hx
    refine g_tup2 <| g_name <| g_name <| es_set <| ev_op <| ev_var rfl <| ev_tup <| ea_cons <| ev_var rfl <| ea_nil ⟨by simp, rd_catT (by rw [List.length_map, List.length_singleton]; omega) ?_⟩
    refine ⟨row2, w ++ [e], step h' e, .da d, .da (encD e), ?_, ok2, step_isH I' he, by rw [List.length_append, hl2]; rfl, fun d' hd' => ?_⟩
    · show _ = [_, _, _, _, _, En.da (.tuple ((w ++ [e]).map encD)), _, _, _]
      rw [List.map_append]
      rfl
    · rcases List.mem_append.mp hd' with z | z
      · exact hv d' z
      · rw [List.mem_singleton.mp z]; exact deed_lt he
  · rintro ρ' ⟨row, w, h', y, z, rfl, ok, I', hl2, hv⟩
    rw [rngD_len] at hl2
    exact es_ret <| ev_var rfl ⟨row, rfl, hp w row hv (by omega) ok⟩
end
end Lv
/-! Ld8: the law's web, its steep edges, its words, its likeness. -/
namespace Lv
open PySem PySem.Spec PyProof.Rows L2 Lw
theorem eLt_irrefl (a : Nat × Nat) : ¬ eLt a a := fun h => by
  rcases h with h | ⟨_, h⟩ <;> omega
theorem nodup_of_eLt {E : Edges} (h : E.Pairwise eLt) : E.Nodup := h.imp fun {a b} hab e => by subst e; exact eLt_irrefl _ hab
section
variable {P : Program} {w : World} {K : PySem.W.Frag} {mg : Str → Option Value} {base : Heap}
def EdOk (ed : En) (xs : Edges) : Prop := (∃ l, ed = .ow l (.ls (xs.map eN))) ∨ ed = .da (.list (xs.map eN))
def XsOk (n : Nat) (xs : Edges) : Prop := xs.length < 64 ∧ ∀ e ∈ xs, e.1 < e.2 ∧ e.2 < n
def R__law_table : List PyData → List PyData → (PyData → List PyData → Prop) → Prop := fun row ds Pw => ds = [.int 4, .int 125] ∧ RowOk row ∧ ∀ (n r : Nat) (E : Edges) row', Web n E → 1 ≤ r → r ≤ 5 → (r + 1) ^ n ≤ 125 → RowOk row' → Pw (.tuple [webD n E, .int r]) row'
theorem pow_small {n : Nat} (h : n ≤ 4) : (1 + 1) ^ n ≤ 125 := Nat.le_trans (Nat.pow_le_pow_right (by decide) h) (by decide)
/-- what the sorted set of the drawn edges is -/
theorem edges_done {n : Nat} {xs : Edges} (n1 : 1 ≤ n) (n4 : n ≤ 4) (X : XsOk n xs) {ys : List (Int × Int)} (h1 : ∀ e, e ∈ ys ↔ e ∈ xs.map fun e => ((e.1 : Int), (e.2 : Int))) (h2 : ys.Pairwise pairLt) :
    ∃ E : Edges, ys.map encE = E.map eN ∧ Web n E := by
  let g : Int × Int → Nat × Nat := fun e => (e.1.toNat, e.2.toNat)
  have back : ∀ y ∈ ys, ((g y).1 : Int) = y.1 ∧ ((g y).2 : Int) = y.2 ∧ g y ∈ xs := fun y hy => by
    obtain ⟨e, he, rfl⟩ := List.mem_map.mp ((h1 y).mp hy)
    exact ⟨rfl, rfl, he⟩
  have hp : (ys.map g).Pairwise eLt := by
    refine List.pairwise_map.mpr (h2.imp_of_mem fun {a b} ha hb hab => ?_)
    obtain ⟨a1, a2, _⟩ := back a ha
    obtain ⟨b1, b2, _⟩ := back b hb
    rcases hab with z | ⟨z1, z2⟩
    · exact .inl (by omega)
    · exact .inr ⟨by omega, by omega⟩
  refine ⟨ys.map g, ?_, n1, n4, ?_, hp, ?_⟩
  · rw [List.map_map]
    refine List.map_congr_left fun y hy => ?_
    obtain ⟨a1, a2, _⟩ := back y hy
    show encE y = PyData.tuple [.int ((g y).1 : Int), .int ((g y).2 : Int)]
    rw [a1, a2]
  · intro e he
    obtain ⟨y, hy, rfl⟩ := List.mem_map.mp he
    exact X.2 _ (back y hy).2.2
  · have := (nodup_of_eLt hp).length_le_of_subset (l₂ := xs) fun e he => by
      obtain ⟨y, hy, rfl⟩ := List.mem_map.mp he
      exact (back y hy).2.2
    have := X.1
    omega
theorem w__law_table (B : Bi mg) (D : DefG K mg "_law_table" s__law_table) (C__law_many : Cal P w K mg base 1 "_law_many" ["_law_roof", "_law_many_here"] (spP K 2 R__law_many)) (C__law_pick : Cal P w K mg base 2 "_law_pick" ["_law_row", "_law_things"] (spR K 1 R__law_pick)) (C__law_taken : Cal P w K mg base 1 "_law_taken" ["_law_row", "_law_many_here"] (spR K 1 R__law_taken)) : Cal P w K mg base 3 "_law_table" ["_law_row", "_law_most", "_law_size"] (spR K 2 R__law_table) := by
  refine mk_calR (k := 2) (N := ["_law_row", "_law_most", "_law_size", "_law_many_here", "_law_way", "_law_thin", "_law_edges", "_law_roof", "_law_count", "_law_k", "_law_j"]) R__law_table D sc__law_table (fun _ _ _ _ _ _ us hl => match us, hl with | [_, _, _], _ => rfl) (fun f cdv A outer s H E hr => ⟨_, (pss_cons (ps_par (i := 3) (j := 4) rfl sc__law_table.nd rfl rfl (by decide) rfl rfl (pa_cons (pe_op op_add pe_int (pe_cal (C__law_taken.mono (by decide)) hr (by rfl) (pa_cons (pv 0) (pa_cons (pv 1) pa_nil)))) (pa_cons (pe_cal (C__law_taken.mono (by decide)) hr (by rfl) (pa_cons (pv 0) (pa_cons pe_int pa_nil))) pa_nil)) (by rfl))
      (pss_cons (ps_asg (pe_tup (pa_cons (pe_cal (C__law_pick.mono (by decide)) hr (by rfl) (pa_cons (pv 0) (pa_cons (pe_lst (pa_cons pe_int (pa_cons pe_int (pa_cons pe_int pa_nil)))) pa_nil))) (pa_cons (pe_lst pa_nil) (pa_cons (pe_op op_add pe_int (pe_cal (C__law_taken.mono (by decide)) hr (by rfl) (pa_cons (pv 0) (pa_cons pe_int pa_nil)))) (pa_cons pe_int pa_nil))))) (kpg_tup K rfl (n := 4) rfl (pgs_cons (pg_name (i := 5) sc__law_table.nd rfl (by first | exact .inl rfl | exact .inr rfl)) (pgs_cons (pg_name (i := 6) sc__law_table.nd rfl (by first | exact .inl rfl | exact .inr rfl)) (pgs_cons (pg_name (i := 7) sc__law_table.nd rfl (by first | exact .inl rfl | exact .inr rfl)) (pgs_cons (pg_name (i := 8) sc__law_table.nd rfl (by first | exact .inl rfl | exact .inr rfl)) pgs_nil))))))
      (pss_cons (ps_for PassesOwn.never rfl (pi_range1 (by rfl) B.range (pa_cons (pv 3) pa_nil)) (pg_name (i := 9) sc__law_table.nd rfl (by first | exact .inl rfl | exact .inr rfl)) (pss_one (ps_for PassesOwn.never rfl (pi_range2 (by rfl) B.range (pa_cons (pe_op op_add (pv 9) pe_int) (pa_cons (pv 3) pa_nil))) (pg_name (i := 10) sc__law_table.nd rfl (by first | exact .inl rfl | exact .inr rfl)) (pss_one (ps_if (PW.pt (pw_and (pt_cmpR op_lt (pv 4) pe_int (nomark _)) (pw_and1 (pt_cmpR (kop_eqD K rfl hr.units) (pe_cal (C__law_taken.mono (by decide)) hr (by rfl) (pa_cons (pv 0) (pa_cons (pv 5) pa_nil))) pe_int (nomark _))))) (pss_one (ps_expr (pe_bm PySem.F.plainAttrs_list PySem.F.slot_list_append PySem.F.type_list_append mt_append (pv 6) (pa_cons (pe_tup (pa_cons (pv 9) (pa_cons (pv 10) pa_nil))) pa_nil)))) pss_nil)))))
      (pss_cons (ps_if (pt_cmpR (kop_eqD K rfl hr.units) (pv 4) pe_int (nomark _)) (pss_one (ps_setLc (i := 6) (own := [("_law_k", 9)]) rfl sc__law_table.nd rfl rfl rfl (pi_range1 (by rfl) B.range (pa_cons (pe_op op_sub (pv 3) pe_int) pa_nil)) (blkOk_by (N := ["_law_row", "_law_most", "_law_size", "_law_many_here", "_law_way", "_law_thin", "_law_edges", "_law_roof", "_law_count", "_law_k", "_law_j"]) (sc := defScope s__law_table) (by decide +kernel)) (fun _ _ _ _ _ => (pg_name (i := 9) sc__law_table.nd rfl (by first | exact .inl rfl | exact .inr rfl))) (fun _ _ _ _ _ => pts_nil) (fun _ _ _ _ _ => (pe_tup (pa_cons (pv 9) (pa_cons (pe_op op_add (pv 9) pe_int) pa_nil)))))) pss_nil)
      (pss_cons (ps_if (pt_cmpR (kop_eqD K rfl hr.units) (pv 4) pe_int (nomark _)) (pss_one (ps_setLc (i := 6) (own := [("_law_k", 9)]) rfl sc__law_table.nd rfl rfl rfl (pi_range2 (by rfl) B.range (pa_cons pe_int (pa_cons (pv 3) pa_nil))) (blkOk_by (N := ["_law_row", "_law_most", "_law_size", "_law_many_here", "_law_way", "_law_thin", "_law_edges", "_law_roof", "_law_count", "_law_k", "_law_j"]) (sc := defScope s__law_table) (by decide +kernel)) (fun _ _ _ _ _ => (pg_name (i := 9) sc__law_table.nd rfl (by first | exact .inl rfl | exact .inr rfl))) (fun _ _ _ _ _ => pts_nil) (fun _ _ _ _ _ => (pe_tup (pa_cons (pe_cal (C__law_taken.mono (by decide)) hr (by rfl) (pa_cons (pv 0) (pa_cons (pv 9) pa_nil))) (pa_cons (pv 9) pa_nil)))))) pss_nil)
      (pss_cons (ps_while PassesOwn.never (PW.pt (pw_and (pt_cmpR op_gt (pv 7) pe_int (nomark _)) (pw_and1 (pt_cmpR op_gt (pe_cal (C__law_many.mono (by decide)) hr (by rfl) (pa_cons (pv 7) (pa_cons (pv 3) pa_nil))) (pv 2) (nomark _))))) (pss_one (ps_set (i := 7) sc__law_table.nd rfl (by first | exact .inl rfl | exact .inr rfl) (pe_op op_sub (pv 7) pe_int))))
      (pss_one (ps_ret (pe_tup (pa_cons (pe_tup (pa_cons (pv 3) (pa_cons (pe_callTy (kcall_tuple_of K rfl) (by rfl) B.tuple (by decide +kernel) (pa_cons (pe_callB (cr_sortedT rfl) (by rfl) B.sorted (by decide +kernel) (pa_cons (pe_callTy (cr_setOfT rfl hr.units) (by rfl) B.set (by decide +kernel) (pa_cons (pv 6) pa_nil)) pa_nil)) pa_nil)) pa_nil))) (pa_cons (pv 7) pa_nil))))))))))), fun a row ds Pw hl hR => ?_⟩)
  obtain ⟨rfl, ok, hp⟩ := hR
  refine es_seq <| es_par <| ea_cons <| ev_op <| ev_int <| ev_callR rfl <| ea_cons <| ev_var rfl <| ea_nil ⟨row, rfl, rfl, 4, rfl, by decide, by decide, ok, fun x row1 x0 x1 ok1 => rd_i <| ea_cons <| ev_callR rfl <| ea_cons <| ev_int <| ea_nil ⟨row1, rfl, rfl, 6, rfl, by decide, by decide, ok1, fun way row2 w0 w1 ok2 => ea_nil ⟨_, _, rfl, ?_⟩⟩⟩
  obtain ⟨n, en, n1, n4⟩ : ∃ n : Nat, 1 + x = (n : Int) ∧ 1 ≤ n ∧ n ≤ 4 := ⟨(1 + x).toNat, by omega, by omega, by omega⟩
  rw [en]
  refine es_seq <| es_four <| ev_callR rfl <| ea_cons <| ev_lst <| ea_cons <| ev_int <| ea_cons <| ev_int <| ea_cons <| ev_int <| ea_nil ⟨by simp, ea_nil ⟨row2, rfl, rfl, _, rfl, by simp, by simp, ok2, fun th row3 hth ok3 => ?_⟩⟩
  obtain ⟨t, rfl, t1, t2⟩ : ∃ t : Int, th = .int t ∧ 1 ≤ t ∧ t ≤ 4 := by
    simp only [List.mem_cons, List.not_mem_nil, or_false] at hth
    rcases hth with rfl | rfl | rfl
    · exact ⟨2, rfl, by decide, by decide⟩
    · exact ⟨3, rfl, by decide, by decide⟩
    · exact ⟨4, rfl, by decide, by decide⟩
  refine en_lst <| ea_nil ⟨by simp, ev_op <| ev_int <| ev_callR rfl <| ea_cons <| ev_int <| ea_nil ⟨row3, rfl, rfl, 5, rfl, by decide, by decide, ok3, fun y row4 y0 y1 ok4 => rd_i <| ev_int fun l no => ?_⟩⟩
  obtain ⟨r, er, r1, r5⟩ : ∃ r : Nat, 1 + y = (r : Int) ∧ 1 ≤ r ∧ r ≤ 5 := ⟨(1 + y).toNat, by omega, by omega, by omega⟩
  rw [er]
  -- the loops
  refine es_seqM (fun ρ' => ∃ row xs y z, ρ' = [.ow a (.ls row), .da (.int 4), .da (.int 125), .da (.int n), .da (.int way), .da (.int t), .ow l (.ls (xs.map eN)), .da (.int r), .da (.int 1), y, z] ∧ RowOk row ∧ XsOk n xs) ?_ ?_
  · refine es_for (js := [9]) <| ei_r1 <| ea_cons <| ev_var rfl <| ea_nil ⟨_, rfl, by omega, by omega, fun i ρ' => ∃ row xs y z, ρ' = [.ow a (.ls row), .da (.int 4), .da (.int 125), .da (.int n), .da (.int way), .da (.int t), .ow l (.ls (xs.map eN)), .da (.int r), .da (.int 1), y, z] ∧ RowOk row ∧ (xs.length ≤ 4 * i ∧ ∀ e ∈ xs, e.1 < e.2 ∧ e.2 < n), fun _ _ _ => trivial, ⟨row4, [], _, _, rfl, ok4, by simp, fun _ z => nomatch z⟩, ?_, ?_⟩
    · rintro i d ρ' hd ⟨row, xs, y, z, rfl, ok, xl, xk⟩
      have hi : i < n := by
        have := (List.getElem?_eq_some_iff.mp hd).1
        rw [rngD_len] at this
        omega
      rw [rngD_get (by omega), Int.zero_add] at hd
      cases hd
      refine g_name <| es_for (js := [10]) <| ei_r2 <| ea_cons <| ev_op <| ev_var rfl <| ev_int <| rd_i <| ea_cons <| ev_var rfl <| ea_nil ⟨_, _, rfl, by omega, by omega, by omega, by omega, fun j ρ' => ∃ row xs z, ρ' = [.ow a (.ls row), .da (.int 4), .da (.int 125), .da (.int n), .da (.int way), .da (.int t), .ow l (.ls (xs.map eN)), .da (.int r), .da (.int 1), .da (.int i), z] ∧ RowOk row ∧ (xs.length ≤ 4 * i + j ∧ ∀ e ∈ xs, e.1 < e.2 ∧ e.2 < n), fun _ _ _ => trivial, ⟨row, xs, _, rfl, ok, by omega, xk⟩, ?_, ?_⟩
      · rintro j d ρ' hd ⟨row, xs, z, rfl, ok, xl, xk⟩
        have hj : j < ((n : Int) - ((i : Int) + 1)).toNat := by
          have := (List.getElem?_eq_some_iff.mp hd).1
          rw [rngD_len] at this
          exact this
        rw [rngD_get hj] at hd
        cases hd
        have ej : (i : Int) + 1 + (j : Int) = ((i + 1 + j : Nat) : Int) := by omega
        rw [ej]
        refine g_name <| es_if <| et_and <| et_test <| ev_op <| ev_var rfl <| ev_int <| rd_b ⟨_, rfl, fun e1 => ?_, fun e1 => Br.f <| es_next ⟨row, xs, _, rfl, ok, by omega, xk⟩⟩
        refine et_test <| ev_op <| ev_callR rfl <| ea_cons <| ev_var rfl <| ea_nil ⟨row, rfl, rfl, t, rfl, t1, by omega, ok, fun v row1 v0 v1 ok1 => ev_int <| rd_eq okI okI ⟨_, rfl, fun e2 => ?_, fun e2 => es_next ⟨row1, xs, _, rfl, ok1, by omega, xk⟩⟩⟩
        refine es_app ⟨_, rfl⟩ <| ev_tup <| ea_cons <| ev_var rfl <| ea_cons <| ev_var rfl <| ea_nil ⟨by simp, _, rfl, by rw [List.length_map]; omega, row1, xs ++ [(i, i + 1 + j)], .da (.int ((i + 1 + j : Nat) : Int)), ?_, ok1, by rw [List.length_append, List.length_singleton]; omega, fun e he => ?_⟩
        · rw [List.map_append]
          rfl
        · rcases List.mem_append.mp he with he | he
          · exact xk e he
          · rw [List.mem_singleton.mp he]
            show i < i + 1 + j ∧ i + 1 + j < n
            omega
      · rintro ρ' ⟨row, xs, z, rfl, ok, xl, xk⟩
        rw [rngD_len] at xl
        exact ⟨row, xs, _, _, rfl, ok, by omega, xk⟩
    · rintro ρ' ⟨row, xs, y, z, rfl, ok, xl, xk⟩
      rw [rngD_len] at xl
      exact ⟨row, xs, _, _, rfl, ok, by omega, xk⟩
  -- way 4
  rintro ρ' ⟨row, xs, y, z, rfl, ok, X⟩
  refine es_seqM (fun ρ' => ∃ row ed xs y z, ρ' = [.ow a (.ls row), .da (.int 4), .da (.int 125), .da (.int n), .da (.int way), .da (.int t), ed, .da (.int r), .da (.int 1), y, z] ∧ RowOk row ∧ XsOk n xs ∧ EdOk ed xs) ?_ ?_
  · refine es_if <| et_test <| ev_op <| ev_var rfl <| ev_int <| rd_eq okI okI ⟨_, rfl, fun e1 => ?_, fun e1 => es_next ⟨row, _, xs, _, _, rfl, ok, X, .inl ⟨l, rfl⟩⟩⟩
    refine es_set <| ev_lcP (α := Nat) (js := [9]) (by decide) <| ei_r1 <| ea_cons <| ev_op <| ev_var rfl <| ev_int <| rd_i <| ea_nil ⟨_, rfl, by omega, by omega, List.range (n - 1), iN, fun _ => true, fun k => eN (k, k + 1), trivial, ?_, by rw [List.length_range]; omega, ?_, ?_⟩
    · rw [show (n : Int) - 1 = ((n - 1 : Nat) : Int) by omega, Int.toNat_natCast]
      exact map_range_rng _
    · intro k hk
      refine g_name <| et_yes ⟨rfl, Br.t <| ev_tup <| ea_cons <| ev_var rfl <| ea_cons <| ev_op <| ev_var rfl <| ev_int <| rd_i <| ea_nil ⟨by simp, ?_, rfl⟩⟩
      rfl
    · rw [filter_true]
      refine ⟨row, _, (List.range (n - 1)).map fun k => (k, k + 1), _, _, rfl, ok, ⟨by rw [List.length_map, List.length_range]; omega, fun e he => ?_⟩, .inr ?_⟩
      · obtain ⟨k, hk, rfl⟩ := List.mem_map.mp he
        have := List.mem_range.mp hk
        show k < k + 1 ∧ k + 1 < n
        omega
      · rw [List.map_map]
        rfl
  -- way 5
  rintro ρ' ⟨row, ed, xs, y, z, rfl, ok, X, hed⟩
  refine es_seqM (fun ρ' => ∃ row ed xs y z, ρ' = [.ow a (.ls row), .da (.int 4), .da (.int 125), .da (.int n), .da (.int way), .da (.int t), ed, .da (.int r), .da (.int 1), y, z] ∧ RowOk row ∧ XsOk n xs ∧ EdOk ed xs) ?_ ?_
  · refine es_if <| et_test <| ev_op <| ev_var rfl <| ev_int <| rd_eq okI okI ⟨_, rfl, fun e1 => ?_, fun e1 => es_next ⟨row, _, xs, _, _, rfl, ok, X, hed⟩⟩
    refine es_set <| ev_lc (js := [9]) (by decide) <| ei_r2 <| ea_cons <| ev_int <| ea_cons <| ev_var rfl <| ea_nil ⟨_, _, rfl, by decide, by decide, by omega, by omega, fun i acc ρ' => ∃ row q z, ρ' = [.ow a (.ls row), .da (.int 4), .da (.int 125), .da (.int n), .da (.int way), .da (.int t), ed, .da (.int r), .da (.int 1), .un, z] ∧ acc = q.map eN ∧ q.length = i ∧ RowOk row ∧ ∀ e ∈ q, e.1 < e.2 ∧ e.2 < n, fun _ _ _ _ => trivial, by rw [rngD_len]; omega, ⟨row, [], _, rfl, rfl, rfl, ok, fun _ z => nomatch z⟩, ?_, ?_⟩
    · rintro i acc d ρ' hd ⟨row, q, z, rfl, rfl, hl2, ok, hv⟩
      have hi : i < ((n : Int) - 1).toNat := by
        have := (List.getElem?_eq_some_iff.mp hd).1
        rw [rngD_len] at this
        exact this
      rw [rngD_get hi] at hd
      cases hd
      refine g_name <| et_yes <| Br.t <| ev_tup <| ea_cons <| ev_callR rfl <| ea_cons <| ev_var rfl <| ea_nil ⟨row, rfl, rfl, _, rfl, by omega, by omega, ok, fun v row1 v0 v1 ok1 => ea_cons <| ev_var rfl <| ea_nil ⟨by simp, row1, q ++ [(v.toNat, i + 1)], z, rfl, ?_, by rw [List.length_append, hl2]; rfl, ok1, fun e he => ?_⟩⟩
      · rw [List.map_append]
        show _ ++ [PyData.tuple [.int v, .int (1 + i)]] = _ ++ [PyData.tuple [.int (v.toNat : Int), .int ((i + 1 : Nat) : Int)]]
        rw [Int.toNat_of_nonneg v0, show (1 : Int) + (i : Int) = ((i + 1 : Nat) : Int) by omega]
      · rcases List.mem_append.mp he with he | he
        · exact hv e he
        · rw [List.mem_singleton.mp he]
          show v.toNat < i + 1 ∧ i + 1 < n
          omega
    · rintro acc ρ' ⟨row, q, z, rfl, rfl, hl2, ok, hv⟩
      rw [rngD_len] at hl2
      exact ⟨row, _, q, _, _, rfl, ok, ⟨by omega, hv⟩, .inr rfl⟩
  -- the roof
  rintro ρ' ⟨row, ed, xs, y, z, rfl, ok, X, hed⟩
  refine es_seqM (fun ρ' => ∃ (r : Nat), ρ' = [.ow a (.ls row), .da (.int 4), .da (.int 125), .da (.int n), .da (.int way), .da (.int t), ed, .da (.int r), .da (.int 1), y, z] ∧ 1 ≤ r ∧ r ≤ 5 ∧ (r + 1) ^ n ≤ 125) ?_ ?_
  · refine es_while (fun m ρ' => ρ' = [.ow a (.ls row), .da (.int 4), .da (.int 125), .da (.int n), .da (.int way), .da (.int t), ed, .da (.int (m : Nat)), .da (.int 1), y, z] ∧ 1 ≤ m ∧ m ≤ 5) ⟨r, rfl, r1, r5⟩ ?_
    rintro m ρ' ⟨rfl, m1, m5⟩
    refine et_and <| et_test <| ev_op <| ev_var rfl <| ev_int <| rd_b ⟨_, rfl, Br.dec (fun h => ?_) (fun h => ?_)⟩
    · refine et_test <| ev_op <| ev_call <| ea_cons <| ev_var rfl <| ea_cons <| ev_var rfl <| ea_nil ⟨rfl, m, n, rfl, by omega, by omega, ev_var rfl <| rd_b ⟨_, rfl, Br.dec (fun h2 => ?_) (fun h2 => ⟨m, rfl, m1, m5, by omega⟩)⟩⟩
      refine es_set <| ev_op <| ev_var rfl <| ev_int <| rd_i ⟨m - 1, by omega, ?_, by omega, by omega⟩
      rw [show (m : Int) - 1 = ((m - 1 : Nat) : Int) by omega]
      rfl
    · have e : m = 1 := by omega
      subst e
      exact Br.f ⟨1, rfl, by omega, by omega, pow_small n4⟩
  -- the answer
  rintro ρ' ⟨r, rfl, r1, r5, hr⟩
  have fin : ∀ {ρ1 : List En}, ρ1[0]? = some (.ow a (.ls row)) → ρ1[3]? = some (.da (.int n)) → ρ1[7]? = some (.da (.int r)) → ∀ ys : List (Int × Int), (∀ e, e ∈ ys ↔ e ∈ xs.map fun e => ((e.1 : Int), (e.2 : Int))) → ys.Pairwise pairLt →
      ∃ E : Edges, ys.map encE = E.map eN ∧ ∃ row', ρ1[0]? = some (.ow a (.ls row')) ∧ Pw (.tuple [webD n E, .int r]) row' := fun g0 g3 g7 ys h1 h2 => by
    obtain ⟨E, e1, W⟩ := edges_done n1 n4 X h1 h2
    exact ⟨E, e1, row, g0, hp n r E row W r1 r5 hr ok⟩
  have xe : xs.map eN = (xs.map fun e => ((e.1 : Int), (e.2 : Int))).map encE := by rw [List.map_map]; rfl
  have xb : ∀ e ∈ (xs.map fun e => ((e.1 : Int), (e.2 : Int))), 0 ≤ e.1 ∧ e.1 < 64 ∧ 0 ≤ e.2 ∧ e.2 < 64 := fun e he => by
    obtain ⟨e', h', rfl⟩ := List.mem_map.mp he
    have := X.2 e' h'
    simp only
    omega
  have xl : (xs.map fun e => ((e.1 : Int), (e.2 : Int))).length < 64 := by rw [List.length_map]; exact X.1
  unfold EdOk at hed
  rw [xe] at hed
  refine es_ret <| ev_tup <| ea_cons <| ev_tup <| ea_cons <| ev_var rfl <| ea_cons <| ev_cb <| ea_cons <| ev_sortSet ?_
  rcases hed with ⟨l', rfl⟩ | rfl
  · refine ev_take rfl ⟨_, rfl, xl, xb, fun ys h1 h2 => ?_⟩
    obtain ⟨E, e1, row', g0, hpw⟩ := fin (ρ1 := List.set [.ow a (.ls row), .da (.int 4), .da (.int 125), .da (.int n), .da (.int way), .da (.int t), _, .da (.int r), .da (.int 1), y, z] 6 _) rfl rfl rfl ys h1 h2
    rw [e1]
    exact ea_nil <| rc_tupL <| ea_nil ⟨by simp, ea_cons <| ev_var rfl <| ea_nil ⟨by simp, row', g0, hpw⟩⟩
  · refine ev_var rfl ⟨_, rfl, xl, xb, fun ys h1 h2 => ?_⟩
    obtain ⟨E, e1, row', g0, hpw⟩ := fin (ρ1 := [.ow a (.ls row), .da (.int 4), .da (.int 125), .da (.int n), .da (.int way), .da (.int t), _, .da (.int r), .da (.int 1), y, z]) rfl rfl rfl ys h1 h2
    rw [e1]
    exact ea_nil <| rc_tupL <| ea_nil ⟨by simp, ea_cons <| ev_var rfl <| ea_nil ⟨by simp, row', g0, hpw⟩⟩
end
end Lv
/-! Ld9: the law's steep edges, gaps, ways, words, likeness. -/
namespace Lv
open PySem PySem.Spec PyProof.Rows L2 Lw
section
variable {P : Program} {w : World} {K : PySem.W.Frag} {mg : Str → Option Value} {base : Heap}
def R__law_steep : List PyData → (PyData → Prop) → Prop := fun ds Pw => ∃ (n : Nat) (E : Edges) (h : List Int), ds = [webD n E, encI h] ∧ Web n E ∧ h.length = n ∧ ∀ s : List (Nat × Nat), s.isEmpty = softB E h → Pw (.list (s.map eN))
theorem two_soft {E : Edges} {h : List Int} : ((E.filter fun e => decide (at0 h e.1 + 1 < at0 h e.2)).map (fun e => (e.1, e.2)) ++ (E.filter fun e => decide (at0 h e.2 + 1 < at0 h e.1)).map (fun e => (e.2, e.1))).isEmpty = softB E h := by
  unfold softB
  rw [Bool.eq_iff_iff, List.isEmpty_iff, List.isEmpty_iff, List.append_eq_nil_iff, List.map_eq_nil_iff, List.map_eq_nil_iff, List.filter_eq_nil_iff, List.filter_eq_nil_iff, List.filter_eq_nil_iff]
  constructor
  · rintro ⟨h1, h2⟩ e he
    have a1 := h1 e he
    have a2 := h2 e he
    simp at a1 a2
    simp
    split <;> omega
  · intro H
    refine ⟨fun e he => ?_, fun e he => ?_⟩
    · have := H e he
      simp at this
      simp
      split at this <;> omega
    · have := H e he
      simp at this
      simp
      split at this <;> omega
theorem w__law_steep (B : Bi mg) (D : DefG K mg "_law_steep" s__law_steep) : Cal P w K mg base 1 "_law_steep" ["_law_web", "_law_heights_here"] (spP K 2 R__law_steep) := by
  refine mk_cal (k := 0) (N := ["_law_web", "_law_heights_here", "_law_found", "_law_a", "_law_b"]) R__law_steep D sc__law_steep (fun _ _ _ _ _ _ us hl => match us, hl with | [_, _], _ => rfl) (fun f cdv A outer s H E hr => ⟨_, (pss_cons (ps_setLc (i := 2) (own := [("_law_a", 3), ("_law_b", 4)]) rfl sc__law_steep.nd rfl rfl rfl (kpi_tup K rfl (pe_ix (kix_seq K rfl) (pv 0) pe_int (fun _ _ => rfl))) (blkOk_by (N := ["_law_web", "_law_heights_here", "_law_found", "_law_a", "_law_b"]) (sc := defScope s__law_steep) (by decide +kernel)) (fun _ _ _ _ _ => (kpg_tup K rfl (n := 2) rfl (pgs_cons (pg_name (i := 3) sc__law_steep.nd rfl (by first | exact .inl rfl | exact .inr rfl)) (pgs_cons (pg_name (i := 4) sc__law_steep.nd rfl (by first | exact .inl rfl | exact .inr rfl)) pgs_nil)))) (fun _ _ _ _ _ => (pts_one (pt_cmpR op_gt (pe_ix (kix_seq K rfl) (pv 1) (pv 4) (fun _ _ => rfl)) (pe_op op_add (pe_ix (kix_seq K rfl) (pv 1) (pv 3) (fun _ _ => rfl)) pe_int) (nomark _)))) (fun _ _ _ _ _ => (pe_tup (pa_cons (pv 3) (pa_cons (pv 4) pa_nil)))))
      (pss_one (ps_ret (pe_callB (kcr_sortedL K rfl hr.units) (by rfl) B.sorted (by decide +kernel) (pa_cons (pe_op op_cat (pv 2) (pe_lc (own := [("_law_a", 3), ("_law_b", 4)]) rfl sc__law_steep.nd (kpi_tup K rfl (pe_ix (kix_seq K rfl) (pv 0) pe_int (fun _ _ => rfl))) (blkOk_by (N := ["_law_web", "_law_heights_here", "_law_found", "_law_a", "_law_b"]) (sc := defScope s__law_steep) (by decide +kernel)) (fun _ _ _ _ _ => (kpg_tup K rfl (n := 2) rfl (pgs_cons (pg_name (i := 3) sc__law_steep.nd rfl (by first | exact .inl rfl | exact .inr rfl)) (pgs_cons (pg_name (i := 4) sc__law_steep.nd rfl (by first | exact .inl rfl | exact .inr rfl)) pgs_nil)))) (fun _ _ _ _ _ => (pts_one (pt_cmpR op_gt (pe_ix (kix_seq K rfl) (pv 1) (pv 3) (fun _ _ => rfl)) (pe_op op_add (pe_ix (kix_seq K rfl) (pv 1) (pv 4) (fun _ _ => rfl)) pe_int) (nomark _)))) (fun _ _ _ _ _ => (pe_tup (pa_cons (pv 4) (pa_cons (pv 3) pa_nil)))))) pa_nil))))), fun ds Pw hl hR => ?_⟩)
  obtain ⟨n, E, h, rfl, W, hn, hp⟩ := hR
  have el := W.len
  have f1 := filter_len (xs := E) (c := fun e => decide (at0 h e.1 + 1 < at0 h e.2))
  have f2 := filter_len (xs := E) (c := fun e => decide (at0 h e.2 + 1 < at0 h e.1))
  refine es_seq <| es_set <| ev_lcP (α := Nat × Nat) (js := [3, 4]) (by decide) <| ei_tup <| ev_op <| ev_var rfl <| ev_int <| rd_ixT rfl ⟨_, rfl, E, eN, fun e => decide (at0 h e.1 + 1 < at0 h e.2), fun e => eN (e.1, e.2), trivial, rfl, by omega, ?_, ?_⟩
  · intro e he
    have hm := W.ok e he
    exact g_tup2 <| g_name <| g_name <| et_test <| ev_op <| ev_op <| ev_var rfl <| ev_var rfl <| rd_ixT (atH (by omega)) <| ev_op <| ev_op <| ev_var rfl <| ev_var rfl <| rd_ixT (atH (by omega)) <| ev_int <| rd_i <| rd_b ⟨_, rfl, rfl, fun _ => ev_tup <| ea_cons <| ev_var rfl <| ea_cons <| ev_var rfl <| ea_nil ⟨by simp, rfl, rfl⟩, fun _ => rfl⟩
  refine es_ret <| ev_cb <| ea_cons <| ev_op <| ev_var rfl <| ev_lcP (α := Nat × Nat) (js := [3, 4]) (by decide) <| ei_tup <| ev_op <| ev_var rfl <| ev_int <| rd_ixT rfl ⟨_, rfl, E, eN, fun e => decide (at0 h e.2 + 1 < at0 h e.1), fun e => eN (e.2, e.1), trivial, rfl, by omega, ?_, ?_⟩
  · intro e he
    have hm := W.ok e he
    exact g_tup2 <| g_name <| g_name <| et_test <| ev_op <| ev_op <| ev_var rfl <| ev_var rfl <| rd_ixT (atH (by omega)) <| ev_op <| ev_op <| ev_var rfl <| ev_var rfl <| rd_ixT (atH (by omega)) <| ev_int <| rd_i <| rd_b ⟨_, rfl, rfl, fun _ => ev_tup <| ea_cons <| ev_var rfl <| ea_cons <| ev_var rfl <| ea_nil ⟨by simp, rfl, rfl⟩, fun _ => rfl⟩
  · refine rd_cat (by rw [List.length_map, List.length_map]; omega) <| ea_nil ?_
    have e1 : ((E.filter fun e => decide (at0 h e.1 + 1 < at0 h e.2)).map fun e => eN (e.1, e.2)) ++ ((E.filter fun e => decide (at0 h e.2 + 1 < at0 h e.1)).map fun e => eN (e.2, e.1)) = (((E.filter fun e => decide (at0 h e.1 + 1 < at0 h e.2)).map (fun e => (e.1, e.2)) ++ (E.filter fun e => decide (at0 h e.2 + 1 < at0 h e.1)).map (fun e => (e.2, e.1))).map fun e => [(e.1 : Int), (e.2 : Int)]).map encI := by
      rw [List.map_append, List.map_append, List.map_map, List.map_map, List.map_map, List.map_map]
      rfl
    have hs := two_soft (E := E) (h := h)
    rw [e1]
    revert hs
    generalize ((E.filter fun e => decide (at0 h e.1 + 1 < at0 h e.2)).map (fun e => (e.1, e.2)) ++ (E.filter fun e => decide (at0 h e.2 + 1 < at0 h e.1)).map (fun e => (e.2, e.1))) = L
    intro hs
    refine rc_sortL (fun x hx => ?_) fun ys pm => ?_
    · obtain ⟨_, _, rfl⟩ := List.mem_map.mp hx
      exact fun z => nomatch z
    · let g : List Int → Nat × Nat := fun l => ((l.getD 0 0).toNat, (l.getD 1 0).toNat)
      have e2 : ys.map encI = (ys.map g).map eN := by
        rw [List.map_map]
        refine List.map_congr_left fun y hy => ?_
        obtain ⟨e, _, rfl⟩ := List.mem_map.mp (pm.mem_iff.mp hy)
        rfl
      rw [e2]
      refine hp _ ?_
      rw [← hs]
      have := pm.length_eq
      rw [List.length_map] at this
      rw [Bool.eq_iff_iff, List.isEmpty_iff, List.isEmpty_iff, ← List.length_eq_zero_iff, ← List.length_eq_zero_iff, List.length_map, this]
def R__law_off : List PyData → (PyData → Prop) → Prop := fun ds Pw => ∃ (n : Nat) (one other : List Int), ds = [encI one, encI other] ∧ one.length = n ∧ other.length = n ∧ n ≤ 1000 ∧ Pw (.int (gapZ n one other))
theorem w__law_off (B : Bi mg) (D : DefG K mg "_law_off" s__law_off) : Cal P w K mg base 1 "_law_off" ["_law_one", "_law_other"] (spP K 2 R__law_off) := by
  refine mk_cal (k := 0) (N := ["_law_one", "_law_other", "_law_k"]) R__law_off D sc__law_off (fun _ _ _ _ _ _ us hl => match us, hl with | [_, _], _ => rfl) (fun f cdv A outer s H E hr => ⟨_, (pss_one (ps_ret (pe_callB (kcr_sum K rfl rfl) (by rfl) B.sum (by decide +kernel) (pa_cons (pe_lc (own := [("_law_k", 2)]) rfl sc__law_off.nd (pi_range1 (by rfl) B.range (pa_cons (pe_callB (kcall_len K rfl) (by rfl) B.len (by decide +kernel) (pa_cons (pv 0) pa_nil)) pa_nil)) (blkOk_by (N := ["_law_one", "_law_other", "_law_k"]) (sc := defScope s__law_off) (by decide +kernel)) (fun _ _ _ _ _ => (pg_name (i := 2) sc__law_off.nd rfl (by first | exact .inl rfl | exact .inr rfl))) (fun _ _ _ _ _ => pts_nil) (fun _ _ _ _ _ => (pe_op op_sub (pe_callB (call_max2 rfl) (by rfl) B.max (by decide +kernel) (pa_cons (pe_ix (kix_seq K rfl) (pv 0) (pv 2) (fun _ _ => rfl)) (pa_cons (pe_ix (kix_seq K rfl) (pv 1) (pv 2) (fun _ _ => rfl)) pa_nil))) (pe_callB (call_min2 rfl) (by rfl) B.min (by decide +kernel) (pa_cons (pe_ix (kix_seq K rfl) (pv 0) (pv 2) (fun _ _ => rfl)) (pa_cons (pe_ix (kix_seq K rfl) (pv 1) (pv 2) (fun _ _ => rfl)) pa_nil)))))) pa_nil)))), fun ds Pw hl hR => ?_⟩)
  obtain ⟨n, one, other, rfl, h1, h2, hn, hp⟩ := hR
  refine es_ret <| ev_cb <| ea_cons <| ev_lcP (α := Nat) (js := [2]) (by decide) <| ei_r1 <| ea_cons <| ev_cb <| ea_cons <| ev_var rfl <| ea_nil <| rc_lenT <| ea_nil ⟨_, rfl, by rw [List.length_map]; omega, by rw [List.length_map]; omega, List.range n, iN, fun _ => true, fun k => .int (max 0 (at0 other k - at0 one k) + max 0 (at0 one k - at0 other k)), trivial, by rw [List.length_map, h1]; exact rng0, by rw [List.length_range]; omega, ?_, ?_⟩
  · intro k hk
    have hk := List.mem_range.mp hk
    refine g_name <| et_yes ⟨rfl, Br.t <| ev_op <| ev_cb <| ea_cons <| ev_op <| ev_var rfl <| ev_var rfl <| rd_ixT (atH (by omega)) <| ea_cons <| ev_op <| ev_var rfl <| ev_var rfl <| rd_ixT (atH (by omega)) <| ea_nil <| rc_max2 <| ev_cb <| ea_cons <| ev_op <| ev_var rfl <| ev_var rfl <| rd_ixT (atH (by omega)) <| ea_cons <| ev_op <| ev_var rfl <| ev_var rfl <| rd_ixT (atH (by omega)) <| ea_nil <| rc_min2 <| rd_i ⟨?_, rfl⟩⟩
    congr 1
    show (if at0 other k > at0 one k then at0 other k else at0 one k) - (if at0 other k < at0 one k then at0 other k else at0 one k) = _
    rw [Int.max_def, Int.max_def]
    split <;> split <;> split <;> split <;> omega
  · rw [filter_true]
    have e : (List.range n).map (fun k => PyData.int (max 0 (at0 other k - at0 one k) + max 0 (at0 one k - at0 other k))) = ((List.range n).map fun k => max 0 (at0 other k - at0 one k) + max 0 (at0 one k - at0 other k)).map PyData.int := by rw [List.map_map]; rfl
    rw [e]
    exact ea_nil <| rc_sum hp
theorem gapZ_le {n r : Nat} {one other : List Int} (I1 : IsH n r one) (I2 : IsH n r other) : gapZ n one other ≤ r * n := sum_le fun k hk => by
  have a1 := I1.lo k hk
  have a2 := I1.hi k hk
  have b1 := I2.lo k hk
  have b2 := I2.hi k hk
  rw [Int.max_def, Int.max_def]
  split <;> split <;> omega
abbrev Way := List Deed × List Int
abbrev encW (x : Way) : PyData := .tuple [encWd x.1, encI x.2]
def R__law_ways : List PyData → (PyData → Prop) → Prop := fun ds Pw => ∃ (n r : Nat) (E : Edges) (one other : List Int), ds = [webD n E, .int r, encI one, encI other, .int 20] ∧ Tab n r E ∧ IsH n r one ∧ IsH n r other ∧
  Pw .none ∧ ∀ ws : List (List Deed), ws.length ≤ 20 → (∀ w ∈ ws, w.length ≤ 36 ∧ ∀ d ∈ w, d.2 < n) → Pw (.list (ws.map encWd))
theorem w__law_ways (B : Bi mg) (D : DefG K mg "_law_ways" s__law_ways) (C__law_after : Cal P w K mg base 3 "_law_after" ["_law_web", "_law_roof", "_law_heights_here"] (spP K 3 R__law_after)) (C__law_off : Cal P w K mg base 1 "_law_off" ["_law_one", "_law_other"] (spP K 2 R__law_off)) : Cal P w K mg base 4 "_law_ways" ["_law_web", "_law_roof", "_law_one", "_law_other", "_law_most"] (spP K 5 R__law_ways) := by
  refine mk_cal (k := 3) (N := ["_law_web", "_law_roof", "_law_one", "_law_other", "_law_most", "_law_rows", "_law_turn", "_law_more", "_law_word_here", "_law_here", "_law_deed", "_law_there_here"]) R__law_ways D sc__law_ways (fun _ _ _ _ _ _ us hl => match us, hl with | [_, _, _, _, _], _ => rfl) (fun f cdv A outer s H E hr => ⟨_, (pss_cons (ps_set (i := 5) sc__law_ways.nd rfl (by first | exact .inl rfl | exact .inr rfl) (pe_lst (pa_cons (pe_tup (pa_cons (pe_tup pa_nil) (pa_cons (pv 2) pa_nil))) pa_nil)))
      (pss_cons (ps_for PassesOwn.never rfl (pi_range1 (by rfl) B.range (pa_cons (pe_cal (C__law_off.mono (by decide)) hr (by rfl) (pa_cons (pv 2) (pa_cons (pv 3) pa_nil))) pa_nil)) (pg_name (i := 6) sc__law_ways.nd rfl (by first | exact .inl rfl | exact .inr rfl)) (pss_cons (ps_set (i := 7) sc__law_ways.nd rfl (by first | exact .inl rfl | exact .inr rfl) (pe_lst pa_nil))
      (pss_cons (ps_for PassesOwn.never rfl (kpi_list K rfl (pv 5)) (kpg_tup K rfl (n := 2) rfl (pgs_cons (pg_name (i := 8) sc__law_ways.nd rfl (by first | exact .inl rfl | exact .inr rfl)) (pgs_cons (pg_name (i := 9) sc__law_ways.nd rfl (by first | exact .inl rfl | exact .inr rfl)) pgs_nil))) (pss_one (ps_for PassesOwn.never rfl (kpi_list K rfl (pe_cal (C__law_after.mono (by decide)) hr (by rfl) (pa_cons (pv 0) (pa_cons (pv 1) (pa_cons (pv 9) pa_nil))))) (kpg_tup K rfl (n := 2) rfl (pgs_cons (pg_name (i := 10) sc__law_ways.nd rfl (by first | exact .inl rfl | exact .inr rfl)) (pgs_cons (pg_name (i := 11) sc__law_ways.nd rfl (by first | exact .inl rfl | exact .inr rfl)) pgs_nil))) (pss_one (ps_if (pt_cmpR op_lt (pe_cal (C__law_off.mono (by decide)) hr (by rfl) (pa_cons (pv 11) (pa_cons (pv 3) pa_nil))) (pe_cal (C__law_off.mono (by decide)) hr (by rfl) (pa_cons (pv 9) (pa_cons (pv 3) pa_nil))) (nomark _)) (pss_one (ps_expr (pe_bm PySem.F.plainAttrs_list PySem.F.slot_list_append PySem.F.type_list_append mt_append (pv 7) (pa_cons (pe_tup (pa_cons (pe_op (kop_catA K rfl) (pv 8) (pe_tup (pa_cons (pv 10) pa_nil))) (pa_cons (pv 11) pa_nil))) pa_nil)))) pss_nil)))))
      (pss_cons (ps_set (i := 5) sc__law_ways.nd rfl (by first | exact .inl rfl | exact .inr rfl) (pv 7))
      (pss_one (ps_if (pt_cmpR op_gt (pe_callB (kcall_len K rfl) (by rfl) B.len (by decide +kernel) (pa_cons (pv 5) pa_nil)) (pv 4) (nomark _)) (pss_one (ps_ret pe_non)) pss_nil))))))
      (pss_one (ps_ret (pe_lc (own := [("_law_word_here", 8), ("_law_here", 9)]) rfl sc__law_ways.nd (kpi_list K rfl (pv 5)) (blkOk_by (N := ["_law_web", "_law_roof", "_law_one", "_law_other", "_law_most", "_law_rows", "_law_turn", "_law_more", "_law_word_here", "_law_here", "_law_deed", "_law_there_here"]) (sc := defScope s__law_ways) (by decide +kernel)) (fun _ _ _ _ _ => (kpg_tup K rfl (n := 2) rfl (pgs_cons (pg_name (i := 8) sc__law_ways.nd rfl (by first | exact .inl rfl | exact .inr rfl)) (pgs_cons (pg_name (i := 9) sc__law_ways.nd rfl (by first | exact .inl rfl | exact .inr rfl)) pgs_nil)))) (fun _ _ _ _ _ => pts_nil) (fun _ _ _ _ _ => (pv 8))))))), fun ds Pw hl hR => ?_⟩)
  obtain ⟨n, r, E, one, other, rfl, T, I1, I2, hpN, hp⟩ := hR
  have n4 := T.web.n4
  have r9 := T.r9
  have gap : ∀ h, IsH n r h → gapZ n h other ≤ 36 := fun h I => by
    have := gapZ_le I I2
    have : (r : Int) * n ≤ 9 * 4 := Int.mul_le_mul (by omega) (by omega) (by omega) (by omega)
    omega
  have g0 := gapZ_nn (n := n) (one := one) (other := other)
  have g1 := gap one I1
  refine es_seq <| es_set <| ev_lst <| ea_cons <| ev_tup <| ea_cons <| ev_tup <| ea_nil ⟨by simp, ea_cons <| ev_var rfl <| ea_nil ⟨by simp, ea_nil ⟨by simp, ?_⟩⟩⟩
  refine es_seq <| es_for (js := [6]) <| ei_r1 <| ea_cons <| ev_call <| ea_cons <| ev_var rfl <| ea_cons <| ev_var rfl <| ea_nil ⟨rfl, n, one, other, rfl, I1.len, I2.len, by omega, ea_nil ⟨_, rfl, by omega, by omega, fun i ρ' => ∃ (L : List Way) (x6 x7 x8 x9 x10 x11 : En), ρ' = [.da (webD n E), .da (.int r), .da (encI one), .da (encI other), .da (.int 20), .da (.list (L.map encW)), x6, x7, x8, x9, x10, x11] ∧ L.length ≤ 20 ∧ ∀ x ∈ L, x.1.length = i ∧ IsH n r x.2 ∧ ∀ d ∈ x.1, d.2 < n, fun _ _ _ => trivial, ⟨[([], one)], _, _, _, _, _, _, rfl, by simp, fun x hx => ?_⟩, ?_, ?_⟩⟩
  · rw [List.mem_singleton.mp hx]
    exact ⟨rfl, I1, fun _ z => nomatch z⟩
  · rintro i d ρ' hd ⟨L, x6, x7, x8, x9, x10, x11, rfl, hL, hx⟩
    have hi : i < (gapZ n one other).toNat := by
      have := (List.getElem?_eq_some_iff.mp hd).1
      rw [rngD_len] at this
      exact this
    refine g_name <| es_seq <| es_own <| ea_nil ⟨by simp, fun l no => ?_⟩
    -- the two loops
    refine es_seqM (fun ρ' => ∃ (M : List Way) (x8 x9 x10 x11 : En), ρ' = [.da (webD n E), .da (.int r), .da (encI one), .da (encI other), .da (.int 20), .da (.list (L.map encW)), .da d, .ow l (.ls (M.map encW)), x8, x9, x10, x11] ∧ M.length ≤ 1000 ∧ ∀ x ∈ M, x.1.length = i + 1 ∧ IsH n r x.2 ∧ ∀ d ∈ x.1, d.2 < n) ?_ ?_
    · refine es_for (js := [8, 9]) <| ei_list <| ev_var rfl ⟨_, rfl, fun j ρ' => ∃ (M : List Way) (x8 x9 x10 x11 : En), ρ' = [.da (webD n E), .da (.int r), .da (encI one), .da (encI other), .da (.int 20), .da (.list (L.map encW)), .da d, .ow l (.ls (M.map encW)), x8, x9, x10, x11] ∧ M.length ≤ 8 * j ∧ ∀ x ∈ M, x.1.length = i + 1 ∧ IsH n r x.2 ∧ ∀ d ∈ x.1, d.2 < n, fun _ _ _ => trivial, ⟨[], _, _, _, _, rfl, by simp, fun _ z => nomatch z⟩, ?_, ?_⟩
      · rintro j d' ρ' hd' ⟨M, x8, x9, x10, x11, rfl, hM, hm⟩
        have hj : j < L.length := by
          have := (List.getElem?_eq_some_iff.mp hd').1
          rw [List.length_map] at this
          exact this
        rw [List.getElem?_map, List.getElem?_eq_getElem hj] at hd'
        cases hd'
        obtain ⟨wl, Ih, wd⟩ := hx _ (List.getElem_mem hj)
        generalize L[j] = wh at wl Ih wd
        obtain ⟨wo, h⟩ := wh
        simp only at wl Ih wd
        have dl := deedsL_len (n := n) (E := E) (r := r) (h := h)
        refine g_tup2 <| g_name <| g_name <| es_for (js := [10, 11]) <| ei_list <| ev_call <| ea_cons <| ev_var rfl <| ea_cons <| ev_var rfl <| ea_cons <| ev_var rfl <| ea_nil ⟨rfl, n, E, r, h, rfl, T.web, Ih.len, _, rfl, fun m ρ' => ∃ (M : List Way) (x10 x11 : En), ρ' = [.da (webD n E), .da (.int r), .da (encI one), .da (encI other), .da (.int 20), .da (.list (L.map encW)), .da d, .ow l (.ls (M.map encW)), .da (encWd wo), .da (encI h), x10, x11] ∧ M.length ≤ 8 * j + m ∧ ∀ x ∈ M, x.1.length = i + 1 ∧ IsH n r x.2 ∧ ∀ d ∈ x.1, d.2 < n, fun _ _ _ => trivial, ⟨M, _, _, rfl, by omega, hm⟩, ?_, ?_⟩
        · rintro m d' ρ' hd' ⟨M, x10, x11, rfl, hM, hm⟩
          have hmm : m < (deedsL n E r h).length := by
            have := (List.getElem?_eq_some_iff.mp hd').1
            rw [List.length_map] at this
            exact this
          rw [List.getElem?_map, List.getElem?_eq_getElem hmm] at hd'
          cases hd'
          have hdm := List.getElem_mem hmm
          revert hdm
          generalize (deedsL n E r h)[m] = e
          intro hdm
          have I3 := step_isH Ih hdm
          refine g_tup2 <| g_name <| g_name <| es_if <| et_test <| ev_op <| ev_call <| ea_cons <| ev_var rfl <| ea_cons <| ev_var rfl <| ea_nil ⟨rfl, n, _, other, rfl, I3.len, I2.len, by omega, ev_call <| ea_cons <| ev_var rfl <| ea_cons <| ev_var rfl <| ea_nil ⟨rfl, n, h, other, rfl, Ih.len, I2.len, by omega, rd_b ⟨_, rfl, fun e1 => ?_, fun e1 => es_next ⟨M, _, _, rfl, by omega, hm⟩⟩⟩⟩
          refine es_app ⟨_, rfl⟩ <| ev_tup <| ea_cons <| ev_op <| ev_var rfl <| ev_tup <| ea_cons <| ev_var rfl <| ea_nil ⟨by simp, rd_catT (by rw [List.length_map, List.length_singleton]; omega) <| ea_cons <| ev_var rfl <| ea_nil ⟨by simp, _, rfl, by rw [List.length_map]; omega, ?_⟩⟩
          refine ⟨M ++ [(wo ++ [e], step h e)], .da (encD e), .da (encI (step h e)), ?_, by rw [List.length_append, List.length_singleton]; omega, fun x hx => ?_⟩
          · have q : encWd (wo ++ [e]) = .tuple (wo.map encD ++ [encD e]) := by show PyData.tuple ((wo ++ [e]).map encD) = _; rw [List.map_append]; rfl
            rw [List.map_append]
            show _ = [_, _, _, _, _, _, _, En.ow l (.ls (M.map encW ++ [PyData.tuple [encWd (wo ++ [e]), encI (step h e)]])), _, _, _, _]
            rw [q]
            rfl
          · rcases List.mem_append.mp hx with hx | hx
            · exact hm x hx
            · rw [List.mem_singleton.mp hx]
              refine ⟨by rw [List.length_append, wl]; rfl, I3, fun d' hd' => ?_⟩
              rcases List.mem_append.mp hd' with z | z
              · exact wd d' z
              · rw [List.mem_singleton.mp z]; exact deed_lt hdm
        · rintro ρ' ⟨M, x10, x11, rfl, hM, hm⟩
          rw [List.length_map] at hM
          exact ⟨M, _, _, _, _, rfl, by omega, hm⟩
      · rintro ρ' ⟨M, x8, x9, x10, x11, rfl, hM, hm⟩
        rw [List.length_map] at hM
        exact ⟨M, _, _, _, _, rfl, by omega, hm⟩
    · rintro ρ' ⟨M, x8, x9, x10, x11, rfl, hM, hm⟩
      refine es_seq <| es_set <| ev_take rfl ?_
      refine es_if <| et_test <| ev_op <| ev_cb <| ea_cons <| ev_var rfl <| ea_nil <| rc_lenL <| ev_var rfl <| rd_b ⟨_, rfl, Br.dec (fun h => es_ret <| ev_non hpN) (fun h => es_next ⟨M, _, _, _, _, _, _, rfl, ?_, hm⟩)⟩
      rw [List.length_map] at h
      omega
  · rintro ρ' ⟨L, x6, x7, x8, x9, x10, x11, rfl, hL, hx⟩
    rw [rngD_len] at hx
    refine es_ret <| ev_lcP (α := Way) (js := [8, 9]) (by decide) <| ei_list <| ev_var rfl ⟨_, rfl, L, encW, fun _ => true, fun x => encWd x.1, trivial, rfl, by omega, ?_, ?_⟩
    · intro x hx
      exact g_tup2 <| g_name <| g_name <| et_yes ⟨rfl, Br.t <| ev_var rfl ⟨rfl, rfl⟩⟩
    · rw [filter_true]
      have e : L.map (fun x => encWd x.1) = (L.map (·.1)).map encWd := by rw [List.map_map]; rfl
      rw [e]
      refine hp _ (by rw [List.length_map]; exact hL) fun w hw => ?_
      obtain ⟨x, hx', rfl⟩ := List.mem_map.mp hw
      obtain ⟨a1, _, a3⟩ := hx x hx'
      exact ⟨by omega, a3⟩
def R__law_is_vector : List PyData → (PyData → Prop) → Prop := fun ds Pw => ∃ i : Int, ds = [.tuple [.int i], .int 1] ∧ Pw (.bool true)
theorem w__law_is_vector (B : Bi mg) (D : DefG K mg "_law_is_vector" s__law_is_vector) : Cal P w K mg base 1 "_law_is_vector" ["_law_value", "_law_size"] (spP K 2 R__law_is_vector) := by
  refine mk_cal (k := 0) (N := ["_law_value", "_law_size", "_law_x"]) R__law_is_vector D sc__law_is_vector (fun _ _ _ _ _ _ us hl => match us, hl with | [_, _], _ => rfl) (fun f cdv A outer s H E hr => ⟨_, (pss_cons (ps_if (PW.pt (pw_or (pt_not (pt_val (pe_callB (kcall_isi K rfl) (by rfl) B.isinstance (by decide +kernel) (pa_cons (pv 0) (pa_cons (pe_bltn (v := .ty "tuple") (by rfl) B.tuple (by decide +kernel) rfl) pa_nil))))) (pw_or1 (pt_cmpR (kop_neD K rfl hr.units) (pe_callB (kcall_len K rfl) (by rfl) B.len (by decide +kernel) (pa_cons (pv 0) pa_nil)) (pv 1) (nomark _))))) (pss_one (ps_ret pe_bl)) pss_nil)
      (pss_one (ps_ret (pe_cmpR (kop_eqD K rfl hr.units) (pe_lc (own := [("_law_x", 2)]) rfl sc__law_is_vector.nd (kpi_tup K rfl (pv 0)) (blkOk_by (N := ["_law_value", "_law_size", "_law_x"]) (sc := defScope s__law_is_vector) (by decide +kernel)) (fun _ _ _ _ _ => (pg_name (i := 2) sc__law_is_vector.nd rfl (by first | exact .inl rfl | exact .inr rfl))) (fun _ _ _ _ _ => (pts_one (PW.pt (pw_or (pt_not (pt_val (pe_callB (kcall_isi K rfl) (by rfl) B.isinstance (by decide +kernel) (pa_cons (pv 2) (pa_cons (pe_bltn (v := .ty "int") (by rfl) B.int (by decide +kernel) rfl) pa_nil))))) (pw_or1 (pt_val (pe_callB (kcall_isi K rfl) (by rfl) B.isinstance (by decide +kernel) (pa_cons (pv 2) (pa_cons (pe_bltn (v := .ty "bool") (by rfl) B.bool (by decide +kernel) rfl) pa_nil))))))))) (fun _ _ _ _ _ => (pv 2))) (pe_lst pa_nil) (nomark _))))), fun ds Pw hl hR => ?_⟩)
  obtain ⟨i, rfl, hp⟩ := hR
  refine es_seq <| es_if <| et_or <| et_not <| et_B <| ev_isi kit_tuple <| ev_var rfl ⟨_, rfl, Br.f ?_⟩
  refine et_test <| ev_op <| ev_cb <| ea_cons <| ev_var rfl <| ea_nil <| rc_lenT <| ev_var rfl <| rd_ne okI okI ⟨false, rfl, Br.f <| es_next ?_⟩
  refine es_ret <| ev_op <| ev_lcP (α := Int) (js := [2]) (by decide) <| ei_tup <| ev_var rfl ⟨_, rfl, [i], PyData.int, fun _ => false, fun _ => .none, trivial, rfl, by simp, ?_, ?_⟩
  · intro x hx
    exact g_name <| et_or <| et_not <| et_B <| ev_isi kit_int <| ev_var rfl ⟨_, rfl, Br.f <| et_B <| ev_isi kit_bool <| ev_var rfl ⟨_, rfl, rfl, Br.f rfl⟩⟩
  · refine ev_lst <| ea_nil ⟨by simp, ?_⟩
    refine rd_eq (okM fun _ => Sh.non) okNil ?_
    rw [eqv_mapNil, List.filter_cons_of_neg (by decide)]
    exact hp
def R__law_is_deed : List PyData → (PyData → Prop) → Prop := fun ds Pw => ∃ (n : Nat) (E : Edges) (x : (Bool ⊕ Int) × Int), ds = [webD n E, encX x] ∧ Pw (.bool (isDeedB n x))
theorem w__law_is_deed (B : Bi mg) (D : DefG K mg "_law_is_deed" s__law_is_deed) (C__law_is_vector : Cal P w K mg base 1 "_law_is_vector" ["_law_value", "_law_size"] (spP K 2 R__law_is_vector)) : Cal P w K mg base 2 "_law_is_deed" ["_law_web", "_law_value"] (spP K 2 R__law_is_deed) := by
  refine mk_cal (k := 1) (N := ["_law_web", "_law_value"]) R__law_is_deed D sc__law_is_deed (fun _ _ _ _ _ _ us hl => match us, hl with | [_, _], _ => rfl) (fun f cdv A outer s H E hr => ⟨_, (pss_cons (ps_if (PW.pt (pw_or (pt_not (pt_val (pe_callB (kcall_isi K rfl) (by rfl) B.isinstance (by decide +kernel) (pa_cons (pv 1) (pa_cons (pe_bltn (v := .ty "tuple") (by rfl) B.tuple (by decide +kernel) rfl) pa_nil))))) (pw_or (pt_cmpR (kop_neD K rfl hr.units) (pe_callB (kcall_len K rfl) (by rfl) B.len (by decide +kernel) (pa_cons (pv 1) pa_nil)) pe_int (nomark _)) (pw_or1 (pt_not (pt_val (pe_callB (kcall_isi K rfl) (by rfl) B.isinstance (by decide +kernel) (pa_cons (pe_ix (kix_seq K rfl) (pv 1) pe_int (fun _ _ => rfl)) (pa_cons (pe_bltn (v := .ty "bool") (by rfl) B.bool (by decide +kernel) rfl) pa_nil))))))))) (pss_one (ps_ret pe_bl)) pss_nil)
      (pss_one (ps_ret (pe_and (pe_cal (C__law_is_vector.mono (by decide)) hr (by rfl) (pa_cons (pe_slice (ksl_tupA K rfl) (pv 1) (po_some pe_int) po_none) (pa_cons pe_int pa_nil))) (pe_one (pe_chain op_le op_lt pe_int (pe_ix (kix_seq K rfl) (pv 1) pe_int (fun _ _ => rfl)) (pe_ix (kix_seq K rfl) (pv 0) pe_int (fun _ _ => rfl)))))))), fun ds Pw hl hR => ?_⟩)
  obtain ⟨n, E, x, rfl, hp⟩ := hR
  refine es_seq <| es_if <| et_or <| et_not <| et_B <| ev_isi kit_tuple <| ev_var rfl ⟨_, rfl, Br.f ?_⟩
  refine et_or <| et_test <| ev_op <| ev_cb <| ea_cons <| ev_var rfl <| ea_nil <| rc_lenT <| ev_int <| rd_ne okI okI ⟨false, rfl, Br.f ?_⟩
  refine et_not <| et_B <| ev_isi kit_bool <| ev_op <| ev_var rfl <| ev_int <| rd_ixT (d := encS x.1) rfl ⟨_, rfl, ?_⟩
  rw [isBol_encS]
  refine ⟨fun e => ?_, fun e => ?_⟩
  · have e2 : x.1.isLeft = false := by revert e; cases x.1.isLeft <;> simp
    refine es_ret <| ev_bl ?_
    have : isDeedB n x = false := by unfold isDeedB; rw [e2]; rfl
    rw [this] at hp
    exact hp
  · have e2 : x.1.isLeft = true := by revert e; cases x.1.isLeft <;> simp
    refine es_next <| es_ret <| ev_andV <| ev_call <| ea_cons <| ev_sl <| ev_var rfl <| eo_part <| ev_int ⟨_, rfl, eo_no <| rs_tup ?_⟩
    have ec : cutD [encS x.1, PyData.int x.2] (some 1) none = [.int x.2] := cut_drop (k := 1) (by simp)
    rw [ec]
    refine ea_cons <| ev_int <| ea_nil ⟨rfl, x.2, rfl, true, rfl, Br.t ?_⟩
    have e3 : isDeedB n x = (decide (0 ≤ x.2) && decide (x.2 < n)) := by
      unfold isDeedB
      rw [e2, Bool.true_and]
    rw [e3] at hp
    refine ev_chain <| ev_int <| ev_op <| ev_var rfl <| ev_int <| rd_ixT (d := .int x.2) rfl <| rd_b ⟨_, rfl, fun h1 => ?_, fun h1 => ?_⟩
    · refine ev_op <| ev_var rfl <| ev_int <| rd_ixT rfl <| rd_b ?_
      rw [h1, Bool.true_and] at hp
      exact hp
    · rw [h1, Bool.false_and] at hp
      exact hp
def runD : Option (List Int) → PyData
  | some z => encI z
  | none => .none
def R__law_run : List PyData → (PyData → Prop) → Prop := fun ds Pw => ∃ (n r : Nat) (E : Edges) (h : List Int) (w : List Deed), ds = [webD n E, .int r, encI h, encWd w] ∧ Web n E ∧ h.length = n ∧ Pw (runD (runW n E r h w))
theorem w__law_run (B : Bi mg) (D : DefG K mg "_law_run" s__law_run) (C__law_deeds : Cal P w K mg base 2 "_law_deeds" ["_law_web", "_law_roof", "_law_heights_here"] (spP K 3 R__law_deeds)) (C__law_step : Cal P w K mg base 1 "_law_step" ["_law_heights_here", "_law_deed"] (spP K 2 R__law_step)) : Cal P w K mg base 3 "_law_run" ["_law_web", "_law_roof", "_law_heights_here", "_law_word_here"] (spP K 4 R__law_run) := by
  refine mk_cal (k := 2) (N := ["_law_web", "_law_roof", "_law_heights_here", "_law_word_here", "_law_deed"]) R__law_run D sc__law_run (fun _ _ _ _ _ _ us hl => match us, hl with | [_, _, _, _], _ => rfl) (fun f cdv A outer s H E hr => ⟨_, (pss_cons (ps_for PassesOwn.never rfl (kpi_tup K rfl (pv 3)) (pg_name (i := 4) sc__law_run.nd rfl (by first | exact .inl rfl | exact .inr rfl)) (pss_cons (ps_if (pt_cmpR (kop_notInD K rfl hr.u65) (pv 4) (pe_cal (C__law_deeds.mono (by decide)) hr (by rfl) (pa_cons (pv 0) (pa_cons (pv 1) (pa_cons (pv 2) pa_nil)))) (by rfl)) (pss_one (ps_ret pe_non)) pss_nil)
      (pss_one (ps_set (i := 2) sc__law_run.nd rfl (by first | exact .inl rfl | exact .inr rfl) (pe_cal (C__law_step.mono (by decide)) hr (by rfl) (pa_cons (pv 2) (pa_cons (pv 4) pa_nil)))))))
      (pss_one (ps_ret (pv 2)))), fun ds Pw hl hR => ?_⟩)
  obtain ⟨n, r, E, h, w, rfl, W, hn, hp⟩ := hR
  have n4 := W.n4
  refine es_seq <| es_for (js := [4]) <| ei_tup <| ev_var rfl ⟨_, rfl, fun i ρ' => ∃ cur y, ρ' = [.da (webD n E), .da (.int r), .da (encI cur), .da (encWd w), y] ∧ cur.length = n ∧ runW n E r h w = runW n E r cur (w.drop i), fun _ _ _ => trivial, ⟨h, _, rfl, hn, rfl⟩, ?_, ?_⟩
  · rintro i d ρ' hd ⟨cur, y, rfl, hc, hrun⟩
    rw [List.getElem?_map] at hd
    cases hg : w[i]? with
    | none => rw [hg] at hd; cases hd
    | some e =>
      rw [hg] at hd
      cases hd
      have hiw := (List.getElem?_eq_some_iff.mp hg).1
      have ed : w.drop i = e :: w.drop (i + 1) := by rw [List.drop_eq_getElem_cons hiw, (List.getElem?_eq_some_iff.mp hg).2]
      rw [ed] at hrun
      refine g_name <| es_seq <| es_if <| et_test <| ev_op <| ev_var rfl <| ev_call <| ea_cons <| ev_var rfl <| ea_cons <| ev_var rfl <| ea_cons <| ev_var rfl <| ea_nil ⟨rfl, n, E, r, cur, rfl, W, hc, rd_ni okD (okM fun _ => Sh.encD) ⟨_, rfl, ?_⟩⟩
      rw [any_encD]
      refine ⟨fun e1 => ?_, fun e1 => ?_⟩
      · have e2 : ¬ e ∈ deedsL n E r cur := by revert e1; simp
        rw [hrun, show runW n E r cur (e :: w.drop (i + 1)) = none from if_neg e2] at hp
        exact es_ret <| ev_non hp
      · have e2 : e ∈ deedsL n E r cur := by revert e1; simp
        exact es_next <| es_set <| ev_call <| ea_cons <| ev_var rfl <| ea_cons <| ev_var rfl <| ea_nil ⟨rfl, cur, e, rfl, by rw [hc]; exact deed_lt e2, step cur e, _, rfl, by rw [step_len]; exact hc, by rw [hrun]; exact if_pos e2⟩
  · rintro ρ' ⟨cur, y, rfl, hc, hrun⟩
    rw [List.length_map, List.drop_length] at hrun
    rw [hrun] at hp
    exact es_ret <| ev_var rfl hp
/-! ### likeness -/
def Atom (d : PyData) : Prop := (∃ i, d = .int i) ∨ (∃ b, d = .bool b) ∨ d = .none
def AlOk : Nat → PyData → Prop
  | 0, _ => False
  | k + 1, d => Atom d ∨ ∃ ds : List PyData, d = .tuple ds ∧ ds.length ≤ 1000 ∧ ∀ x ∈ ds, AlOk k x
def R_alk (k : Nat) : List PyData → (PyData → Prop) → Prop := fun ds Pw => ∃ d, ds = [d, d] ∧ AlOk k d ∧ Pw (.bool true)
theorem alike0 (D : DefG K mg "_law_alike" s__law_alike) : Cal P w K mg base 1 "_law_alike" ["_law_found", "_law_due"] (spP K 2 (R_alk 0)) := by
  obtain ⟨f, fd, F, g⟩ := D.ex
  exact ⟨f, fd, F.ok sc__law_alike (fun vs H Q E h => h.1) (fun cdv A outer s H vs Q E hr ⟨_, _, _, _, _, _, ⟨_, _, z, _⟩, _⟩ => z.elim), g, F.kp, F.binds (fun _ _ _ _ _ _ us hl => match us, hl with | [_, _], _ => rfl)⟩
theorem okAtom {d : PyData} (h : Atom d) : SeqAt.shaped d = true := by
  rcases h with ⟨i, rfl⟩ | ⟨b, rfl⟩ | rfl
  · exact okI
  · exact okB
  · exact okN
theorem eqv_atom {d : PyData} (h : Atom d) : PyData.eqv d d = true := by
  rcases h with ⟨i, rfl⟩ | ⟨b, rfl⟩ | rfl
  · rw [eqv_int]; exact decide_eq_true rfl
  · rw [eqv_bool]; exact decide_eq_true rfl
  · simp [PyData.eqv]
theorem alikeS (j k : Nat) (B : Bi mg) (D : DefG K mg "_law_alike" s__law_alike) (C_self : Cal P w K mg base j "_law_alike" ["_law_found", "_law_due"] (spP K 2 (R_alk k))) : Cal P w K mg base (j + 1) "_law_alike" ["_law_found", "_law_due"] (spP K 2 (R_alk (k + 1))) := by
  refine mk_cal (k := j) (N := ["_law_found", "_law_due", "_law_k"]) (R_alk (k + 1)) D sc__law_alike (fun _ _ _ _ _ _ us hl => match us, hl with | [_, _], _ => rfl) (fun f cdv A outer s H E hr => ⟨_, (pss_cons (ps_if (pt_val (pe_callB (kcall_isiT K rfl) (by rfl) B.isinstance (by decide +kernel) (pa_cons (pv 1) (pa_cons (pe_tup (pa_cons (pe_bltn (v := .ty "tuple") (by rfl) B.tuple (by decide +kernel) rfl) (pa_cons (pe_bltn (v := .ty "list") (by rfl) B.list (by decide +kernel) rfl) pa_nil))) pa_nil)))) (pss_cons (ps_if (PW.pt (pw_or (pt_not (pt_val (pe_callB (kcall_isiT K rfl) (by rfl) B.isinstance (by decide +kernel) (pa_cons (pv 0) (pa_cons (pe_tup (pa_cons (pe_bltn (v := .ty "tuple") (by rfl) B.tuple (by decide +kernel) rfl) (pa_cons (pe_bltn (v := .ty "list") (by rfl) B.list (by decide +kernel) rfl) pa_nil))) pa_nil))))) (pw_or1 (pt_cmpR (kop_neD K rfl hr.units) (pe_callB (kcall_isi K rfl) (by rfl) B.isinstance (by decide +kernel) (pa_cons (pv 0) (pa_cons (pe_bltn (v := .ty "list") (by rfl) B.list (by decide +kernel) rfl) pa_nil))) (pe_callB (kcall_isi K rfl) (by rfl) B.isinstance (by decide +kernel) (pa_cons (pv 1) (pa_cons (pe_bltn (v := .ty "list") (by rfl) B.list (by decide +kernel) rfl) pa_nil))) (nomark _))))) (pss_one (ps_ret pe_bl)) pss_nil)
      (pss_cons (ps_if (pt_cmpR (kop_neD K rfl hr.units) (pe_callB (kcall_len K rfl) (by rfl) B.len (by decide +kernel) (pa_cons (pv 0) pa_nil)) (pe_callB (kcall_len K rfl) (by rfl) B.len (by decide +kernel) (pa_cons (pv 1) pa_nil)) (nomark _)) (pss_one (ps_ret pe_bl)) pss_nil)
      (pss_one (ps_ret (pe_cmpR (kop_eqD K rfl hr.units) (pe_lc (own := [("_law_k", 2)]) rfl sc__law_alike.nd (pi_range1 (by rfl) B.range (pa_cons (pe_callB (kcall_len K rfl) (by rfl) B.len (by decide +kernel) (pa_cons (pv 1) pa_nil)) pa_nil)) (blkOk_by (N := ["_law_found", "_law_due", "_law_k"]) (sc := defScope s__law_alike) (by decide +kernel)) (fun _ _ _ _ _ => (pg_name (i := 2) sc__law_alike.nd rfl (by first | exact .inl rfl | exact .inr rfl))) (fun _ _ _ _ _ => (pts_one (pt_not (pt_val (pe_cal C_self hr (by rfl) (pa_cons (pe_ix (kix_seq K rfl) (pv 0) (pv 2) (fun _ _ => rfl)) (pa_cons (pe_ix (kix_seq K rfl) (pv 1) (pv 2) (fun _ _ => rfl)) pa_nil))))))) (fun _ _ _ _ _ => (pv 2))) (pe_lst pa_nil) (nomark _)))))) pss_nil)
      (pss_cons (ps_if (PW.pt (pw_or (pt_cmpR op_isN (pv 1) pe_non (nomark _)) (pw_or1 (pt_val (pe_callB (kcall_isi K rfl) (by rfl) B.isinstance (by decide +kernel) (pa_cons (pv 1) (pa_cons (pe_bltn (v := .ty "str") (by rfl) B.str (by decide +kernel) rfl) pa_nil))))))) (pss_one (ps_ret (pe_and (pe_cmpR (kop_eqD K rfl hr.units) (pv 0) (pv 1) (nomark _)) (pe_one (pe_cmpR (kop_eqD K rfl hr.units) (pe_callB (kcall_isi K rfl) (by rfl) B.isinstance (by decide +kernel) (pa_cons (pv 0) (pa_cons (pe_bltn (v := .ty "str") (by rfl) B.str (by decide +kernel) rfl) pa_nil))) (pe_callB (kcall_isi K rfl) (by rfl) B.isinstance (by decide +kernel) (pa_cons (pv 1) (pa_cons (pe_bltn (v := .ty "str") (by rfl) B.str (by decide +kernel) rfl) pa_nil))) (nomark _)))))) pss_nil)
      (pss_one (ps_ret (pe_and (pe_callB (kcall_isi K rfl) (by rfl) B.isinstance (by decide +kernel) (pa_cons (pv 0) (pa_cons (pe_bltn (v := .ty "int") (by rfl) B.int (by decide +kernel) rfl) pa_nil))) (pe_and (pe_cmpR (kop_eqD K rfl hr.units) (pe_callB (kcall_isi K rfl) (by rfl) B.isinstance (by decide +kernel) (pa_cons (pv 0) (pa_cons (pe_bltn (v := .ty "bool") (by rfl) B.bool (by decide +kernel) rfl) pa_nil))) (pe_callB (kcall_isi K rfl) (by rfl) B.isinstance (by decide +kernel) (pa_cons (pv 1) (pa_cons (pe_bltn (v := .ty "bool") (by rfl) B.bool (by decide +kernel) rfl) pa_nil))) (nomark _)) (pe_one (pe_cmpR (kop_eqD K rfl hr.units) (pv 0) (pv 1) (nomark _))))))))), fun ds Pw hl hR => ?_⟩)
  obtain ⟨d, rfl, hok, hp⟩ := hR
  rcases hok with hat | ⟨ds, rfl, hz, hk⟩
  · have t1 : isTup d = false ∧ isLst d = false ∧ isTxt d = false := by
      rcases hat with ⟨i, rfl⟩ | ⟨b, rfl⟩ | rfl <;> exact ⟨rfl, rfl, rfl⟩
    refine es_seq <| es_if <| et_B <| ev_isiTL <| ev_var rfl ⟨_, rfl, ?_⟩
    rw [t1.1, t1.2.1]
    refine Br.f <| es_next <| es_seq <| es_if <| et_or <| et_test <| ev_op <| ev_var rfl <| ev_non <| rd_isN ⟨_, rfl, fun e => ?_, fun e => ?_⟩
    · refine Br.t <| es_ret <| ev_andV <| ev_op <| ev_var rfl <| ev_var rfl <| rd_eq (okAtom hat) (okAtom hat) ⟨_, rfl, ?_⟩
      rw [eqv_atom hat]
      refine Br.t <| ev_op <| ev_isi kit_str <| ev_var rfl <| ev_isi kit_str <| ev_var rfl <| rd_eq okB okB ?_
      rw [eqv_bool, decide_eq_true rfl]
      exact hp
    · refine et_B <| ev_isi kit_str <| ev_var rfl ⟨_, rfl, ?_⟩
      rw [t1.2.2]
      have hi : isInt d = true := by
        rcases hat with ⟨i, rfl⟩ | ⟨b, rfl⟩ | rfl
        · rfl
        · rfl
        · cases e
      refine Br.f <| es_next <| es_ret <| ev_andV <| ev_isi kit_int <| ev_var rfl ⟨_, rfl, ?_⟩
      rw [hi]
      refine Br.t <| ev_andV <| ev_op <| ev_isi kit_bool <| ev_var rfl <| ev_isi kit_bool <| ev_var rfl <| rd_eq okB okB ⟨_, rfl, ?_⟩
      rw [eqv_bool, decide_eq_true rfl]
      refine Br.t <| ev_op <| ev_var rfl <| ev_var rfl <| rd_eq (okAtom hat) (okAtom hat) ?_
      rw [eqv_atom hat]
      exact hp
  · refine es_seq <| es_if <| et_B <| ev_isiTL <| ev_var rfl ⟨_, rfl, Br.t ?_⟩
    refine es_seq <| es_if <| et_or <| et_not <| et_B <| ev_isiTL <| ev_var rfl ⟨_, rfl, Br.f ?_⟩
    refine et_test <| ev_op <| ev_isi kit_list <| ev_var rfl <| ev_isi kit_list <| ev_var rfl <| rd_ne okB okB ⟨false, rfl, Br.f <| es_next ?_⟩
    refine es_seq <| es_if <| et_test <| ev_op <| ev_cb <| ea_cons <| ev_var rfl <| ea_nil <| rc_lenT <| ev_cb <| ea_cons <| ev_var rfl <| ea_nil <| rc_lenT <| rd_ne okI okI ⟨_, rfl, ?_⟩
    rw [eqv_int, decide_eq_true rfl]
    refine Br.f <| es_next <| es_ret <| ev_op <| ev_lcP (α := Nat) (js := [2]) (by decide) <| ei_r1 <| ea_cons <| ev_cb <| ea_cons <| ev_var rfl <| ea_nil <| rc_lenT <| ea_nil ⟨_, rfl, by omega, by omega, List.range ds.length, iN, fun _ => false, fun _ => .none, trivial, rng0, by rw [List.length_range]; omega, ?_, ?_⟩
    · intro i hi
      have hi := List.mem_range.mp hi
      exact g_name <| et_not <| et_B <| ev_call <| ea_cons <| ev_op <| ev_var rfl <| ev_var rfl <| rd_ixT (atI_nat (List.getElem?_eq_getElem hi)) <| ea_cons <| ev_op <| ev_var rfl <| ev_var rfl <| rd_ixT (atI_nat (List.getElem?_eq_getElem hi)) <| ea_nil ⟨rfl, ds[i], rfl, hk _ (List.getElem_mem hi), true, rfl, rfl, Br.f rfl⟩
    · have e : (List.range ds.length).filter (fun _ => false) = [] := by rw [List.filter_eq_nil_iff]; simp
      rw [e]
      refine ev_lst <| ea_nil ⟨by simp, ?_⟩
      exact rd_eq okNil okNil hp
def R__law_alike := R_alk 3
theorem w__law_alike (B : Bi mg) (D : DefG K mg "_law_alike" s__law_alike) : Cal P w K mg base 4 "_law_alike" ["_law_found", "_law_due"] (spP K 2 R__law_alike) :=
  alikeS 3 2 B D (alikeS 2 1 B D (alikeS 1 0 B D (alike0 D)))
theorem alInt (i : Int) : AlOk 3 (.int i) := .inl (.inl ⟨i, rfl⟩)
theorem alNon : AlOk 3 .none := .inl (.inr (.inr rfl))
theorem alBool (b : Bool) : AlOk 3 (.bool b) := .inl (.inr (.inl ⟨b, rfl⟩))
theorem alC (c : CH) (h : c.2.length ≤ 1000) : AlOk 3 (encC c) := .inr ⟨_, rfl, by simp, fun x hx => by
  rcases List.mem_cons.mp hx with rfl | hx
  · exact .inl (.inl ⟨_, rfl⟩)
  · rw [List.mem_singleton.mp hx]
    refine .inr ⟨_, rfl, by rw [List.length_map]; exact h, fun y hy => ?_⟩
    obtain ⟨i, _, rfl⟩ := List.mem_map.mp hy
    exact .inl (.inl ⟨i, rfl⟩)⟩
end
end Lv
/-! Lm3: the table of least costs: each step of the loop, its measure, its end. -/
namespace Lv
open PySem PySem.Spec PyProof.Rows L2 Lw
abbrev Tbl := List (List Int × Int)
abbrev keys (m : Tbl) : List (List Int) := m.map (·.1)
theorem look_nil {k : List Int} : lookI [] k = none := rfl
theorem look_pos {q : List Int × Int} {m : Tbl} {k : List Int} (h : q.1 = k) : lookI (q :: m) k = some q.2 := by
  unfold lookI
  rw [List.find?_cons_of_pos (by simpa using h)]
  rfl
theorem look_neg {q : List Int × Int} {m : Tbl} {k : List Int} (h : ¬ q.1 = k) : lookI (q :: m) k = lookI m k := by
  unfold lookI
  rw [List.find?_cons_of_neg (by simpa using h)]
theorem look_key {k : List Int} : ∀ {m : Tbl}, (lookI m k).isSome = true ↔ k ∈ keys m
  | [] => by simp [look_nil]
  | q :: m => by
    by_cases h : q.1 = k
    · rw [look_pos h]
      simp [h]
    · rw [look_neg h, look_key (m := m)]
      simp
      exact fun z => absurd z.symm h
theorem look_none {k : List Int} {m : Tbl} : lookI m k = none ↔ k ∉ keys m := by
  rw [← look_key]
  cases lookI m k <;> simp
theorem look_some_key {k : List Int} {m : Tbl} {c : Int} (h : lookI m k = some c) : k ∈ keys m := look_key.mp (by rw [h]; rfl)
theorem key_look {k : List Int} {m : Tbl} (h : k ∈ keys m) : ∃ c, lookI m k = some c := by
  have := look_key.mpr h
  cases e : lookI m k with
  | none => rw [e] at this; cases this
  | some c => exact ⟨c, rfl⟩
theorem any_key {k : List Int} {m : Tbl} : (m.any fun p => decide (p.1 = k)) = true ↔ k ∈ keys m := by
  rw [List.any_eq_true, List.mem_map]
  simp
theorem look_app {k j : List Int} {v : Int} : ∀ {m : Tbl}, k ∉ keys m → lookI (m ++ [(k, v)]) j = if j = k then some v else lookI m j
  | [], _ => by
    by_cases h : j = k
    · rw [if_pos h]; exact look_pos h.symm
    · rw [if_neg h]; exact look_neg fun z => h z.symm
  | q :: m, hk => by
    have hq : ¬ q.1 = k := fun z => hk (by rw [← z]; simp)
    have hm : k ∉ keys m := fun z => hk (List.mem_cons_of_mem _ z)
    rw [List.cons_append]
    by_cases h : q.1 = j
    · rw [look_pos h, look_pos h, if_neg (fun z => hq (h.trans z))]
    · rw [look_neg h, look_neg h, look_app hm]
theorem look_map {k j : List Int} {v : Int} : ∀ {m : Tbl}, lookI (m.map fun p => if p.1 = k then (p.1, v) else p) j = if j = k then (lookI m j).map fun _ => v else lookI m j
  | [] => by simp [look_nil]
  | q :: m => by
    rw [List.map_cons]
    by_cases hq : q.1 = k
    · rw [if_pos hq]
      by_cases h : q.1 = j
      · rw [look_pos (q := (q.1, v)) h, look_pos h, if_pos (h.symm.trans hq)]; rfl
      · rw [look_neg (q := (q.1, v)) h, look_neg h, look_map]
    · rw [if_neg hq]
      by_cases h : q.1 = j
      · rw [look_pos h, look_pos h, if_neg (fun z => hq (h.trans z))]
      · rw [look_neg h, look_neg h, look_map]
theorem look_put {m : Tbl} {k j : List Int} {v : Int} : lookI (putI m k v) j = if j = k then some v else lookI m j := by
  unfold putI
  by_cases h : k ∈ keys m
  · rw [if_pos (any_key.mpr h), look_map]
    by_cases e : j = k
    · subst e
      obtain ⟨c, hc⟩ := key_look h
      rw [if_pos rfl, if_pos rfl, hc]
      rfl
    · rw [if_neg e, if_neg e]
  · rw [if_neg (fun z => h (any_key.mp z)), look_app h]
theorem keys_put {m : Tbl} {k : List Int} {v : Int} : keys (putI m k v) = if k ∈ keys m then keys m else keys m ++ [k] := by
  unfold putI
  by_cases h : k ∈ keys m
  · rw [if_pos (any_key.mpr h), if_pos h]
    unfold keys
    rw [List.map_map]
    refine List.map_congr_left fun p _ => ?_
    show (if p.1 = k then (p.1, v) else p).1 = p.1
    split <;> rfl
  · rw [if_neg (fun z => h (any_key.mp z)), if_neg h]
    unfold keys
    rw [List.map_append]
    rfl
theorem len_put {m : Tbl} {k : List Int} {v : Int} : (putI m k v).length = if k ∈ keys m then m.length else m.length + 1 := by
  have e : (putI m k v).length = (keys (putI m k v)).length := by unfold keys; rw [List.length_map]
  rw [e, keys_put]
  split
  · exact List.length_map ..
  · rw [List.length_append]
    unfold keys
    rw [List.length_map]
    rfl
theorem nodup_put {m : Tbl} {k : List Int} {v : Int} (h : (keys m).Nodup) : (keys (putI m k v)).Nodup := by
  rw [keys_put]
  split
  · exact h
  · rename_i hk
    rw [List.nodup_append]
    exact ⟨h, by simp, fun a ha b hb e => by rw [List.mem_singleton.mp hb] at e; subst e; exact hk ha⟩
theorem mem_putB {ks : List (List Int)} {k j : List Int} : j ∈ putB ks k ↔ j ∈ ks ∨ j = k := by
  unfold putB
  split
  · rename_i h
    exact ⟨.inl, fun z => z.elim id fun e => by rw [e]; exact h⟩
  · rw [List.mem_append, List.mem_singleton]
theorem nodup_putB {ks : List (List Int)} {k : List Int} (h : ks.Nodup) : (putB ks k).Nodup := by
  unfold putB
  split
  · exact h
  · rename_i hk
    rw [List.nodup_append]
    exact ⟨h, by simp, fun a ha b hb e => by rw [List.mem_singleton.mp hb] at e; subst e; exact hk ha⟩
/-! ### the invariant -/
structure Bf where
  n : Nat
  r : Nat
  E : Edges
  one : List Int
  p : List (Int × Int)
structure BfOk (b : Bf) : Prop where
  web : Web b.n b.E
  one : IsH b.n b.r b.one
  p : IsP b.n b.p
structure TOk (b : Bf) (m : Tbl) : Prop where
  nd : (keys m).Nodup
  ok : ∀ h c, lookI m h = some c → IsH b.n b.r h ∧ comesB b.E b.one h = true ∧ costN b.p b.one h b.n ≤ c ∧ c + 1000 ≤ 1000 * (m.length : Int)
  one : ∃ c, lookI m b.one = some c ∧ c ≤ 0
def Rel (b : Bf) (m : Tbl) (c : Int) (h : List Int) (D : List Deed) : Prop := ∀ d ∈ D, ∃ c', lookI m (step h d) = some c' ∧ c' ≤ c + dcost b.p d
def dl (b : Bf) (h : List Int) : List Deed := deedsL b.n b.E b.r h
/-- who is not done yet: in F, in mo, or here with the first of its deeds -/
def Jn (b : Bf) (F mo : List (List Int)) (m : Tbl) (o : Option (List Int × List Deed)) : Prop := ∀ h c, lookI m h = some c → h ∈ F ∨ h ∈ mo ∨ Rel b m c h (dl b h) ∨ ∃ D, o = some (h, D) ∧ Rel b m c h D
def phi (b : Bf) (m : Tbl) : Nat := ((allH b.n b.r).map fun h => match lookI m h with | none => 1000 * (allH b.n b.r).length + 1 | some c => c.toNat).sum
theorem natsum_le {α : Type} {f g : α → Nat} : ∀ {L : List α}, (∀ x ∈ L, f x ≤ g x) → (L.map f).sum ≤ (L.map g).sum
  | [], _ => Nat.le_refl _
  | x :: L, H => by
    rw [List.map_cons, List.map_cons, List.sum_cons, List.sum_cons]
    have := natsum_le (L := L) fun y hy => H y (List.mem_cons_of_mem _ hy)
    have := H x List.mem_cons_self
    omega
theorem natsum_lt {α : Type} {f g : α → Nat} {x : α} : ∀ {L : List α}, (∀ x ∈ L, f x ≤ g x) → x ∈ L → f x < g x → (L.map f).sum < (L.map g).sum
  | [], _, h, _ => nomatch h
  | y :: L, H, hx, hl => by
    rw [List.map_cons, List.map_cons, List.sum_cons, List.sum_cons]
    have h1 := natsum_le (L := L) fun y hy => H y (List.mem_cons_of_mem _ hy)
    have h2 := H y List.mem_cons_self
    rcases List.mem_cons.mp hx with rfl | hx
    · omega
    · have := natsum_lt (L := L) (fun y hy => H y (List.mem_cons_of_mem _ hy)) hx hl
      omega
variable {b : Bf} {m : Tbl}
theorem TOk.len_le (T : TOk b m) : m.length ≤ (allH b.n b.r).length := by
  have e : m.length = (keys m).length := by unfold keys; rw [List.length_map]
  rw [e]
  refine T.nd.length_le_of_subset fun h hh => ?_
  obtain ⟨c, hc⟩ := key_look hh
  exact mem_allH.mpr (T.ok h c hc).1
/-- an entry that is new or less -/
structure Better (m : Tbl) (t : List Int) (v : Int) : Prop where
  lt : ∀ c, lookI m t = some c → v < c
theorem Rel.put (B : Better m t v) {c : Int} {h : List Int} {D : List Deed} (R : Rel b m c h D) : Rel b (putI m t v) c h D := fun d hd => by
  obtain ⟨c', h1, h2⟩ := R d hd
  rw [look_put]
  by_cases e : step h d = t
  · rw [if_pos e]
    rw [e] at h1
    have := B.lt c' h1
    exact ⟨v, rfl, by omega⟩
  · rw [if_neg e]
    exact ⟨c', h1, h2⟩
theorem Jn.put {F mo : List (List Int)} {o : Option (List Int × List Deed)} {t : List Int} {v : Int} (B : Better m t v) (J : Jn b F mo m o) : Jn b F (putB mo t) (putI m t v) o := fun h c hc => by
  rw [look_put] at hc
  by_cases e : h = t
  · exact .inr (.inl (mem_putB.mpr (.inr e)))
  · rw [if_neg e] at hc
    rcases J h c hc with z | z | z | ⟨D, z1, z2⟩
    · exact .inl z
    · exact .inr (.inl (mem_putB.mpr (.inl z)))
    · exact .inr (.inr (.inl (z.put B)))
    · exact .inr (.inr (.inr ⟨D, z1, z2.put B⟩))
theorem TOk.put {t : List Int} {v : Int} {h : List Int} {c : Int} {d : Deed} (O : BfOk b) (T : TOk b m) (B : Better m t v) (hc : lookI m h = some c) (hd : d ∈ dl b h) (et : t = step h d) (ev : v = c + dcost b.p d) : TOk b (putI m t v) := by
  obtain ⟨I, cm, lo, hi⟩ := T.ok h c hc
  have hk : d.2 < b.n := deed_lt hd
  refine ⟨nodup_put T.nd, fun k x hx => ?_, ?_⟩
  · rw [look_put] at hx
    by_cases e : k = t
    · rw [if_pos e] at hx
      cases hx
      subst e et
      refine ⟨step_isH I hd, comes_step O.web I.len cm hd, ?_, ?_⟩
      · have := cost_tri (one := b.one) O.p I.len hk
        omega
      · have hle := dcost_le O.p hk
        rw [len_put]
        split
        · rename_i hm
          obtain ⟨c0, h0⟩ := key_look hm
          have := B.lt c0 h0
          have := (T.ok _ c0 h0).2.2.2
          omega
        · rw [ev, Int.natCast_add]
          omega
    · rw [if_neg e] at hx
      obtain ⟨a1, a2, a3, a4⟩ := T.ok k x hx
      refine ⟨a1, a2, a3, ?_⟩
      have : m.length ≤ (putI m t v).length := by rw [len_put]; split <;> omega
      omega
  · obtain ⟨c1, h1, h2⟩ := T.one
    rw [look_put]
    by_cases e : b.one = t
    · rw [if_pos e]
      rw [e] at h1
      have := B.lt c1 h1
      exact ⟨v, rfl, by omega⟩
    · rw [if_neg e]
      exact ⟨c1, h1, h2⟩
theorem TOk.nn (O : BfOk b) (T : TOk b m) {h : List Int} {c : Int} (hc : lookI m h = some c) : 0 ≤ c := by
  have := (T.ok h c hc).2.2.1
  have := costN_nn (one := b.one) (other := h) O.p
  omega
theorem phi_put {t : List Int} {v : Int} (O : BfOk b) (T : TOk b m) (T' : TOk b (putI m t v)) (B : Better m t v) : phi b (putI m t v) < phi b m := by
  have ht : lookI (putI m t v) t = some v := by rw [look_put, if_pos rfl]
  have v0 := T'.nn O ht
  have hl := T'.len_le
  have hv := (T'.ok t v ht).2.2.2
  have I := (T'.ok t v ht).1
  have at_t : (match lookI (putI m t v) t with | none => 1000 * (allH b.n b.r).length + 1 | some c => c.toNat) < (match lookI m t with | none => 1000 * (allH b.n b.r).length + 1 | some c => c.toNat) := by
    rw [ht]
    cases e : lookI m t with
    | none =>
      show v.toNat < 1000 * (allH b.n b.r).length + 1
      omega
    | some c =>
      have := B.lt c e
      show v.toNat < c.toNat
      omega
  refine natsum_lt (x := t) (fun h _ => ?_) (mem_allH.mpr I) at_t
  by_cases e : h = t
  · subst e
    exact Nat.le_of_lt at_t
  · rw [look_put, if_neg e]
    exact Nat.le_refl _
/-! ### the end -/
theorem at_end (O : BfOk b) (T : TOk b m) (J : Jn b [] [] m none) : ∀ (g : Nat) (h other : List Int) (c : Int), lookI m h = some c → IsH b.n b.r other → comesB b.E h other = true → (gapZ b.n h other).toNat ≤ g → ∃ c', lookI m other = some c' ∧ c' ≤ c + costN b.p h other b.n
  | g, h, other, c, hc, J1, cm, hg => by
    have I := (T.ok h c hc).1
    by_cases e : h = other
    · subst e
      exact ⟨c, hc, by rw [costN_self]; omega⟩
    · have hne : ∃ k < b.n, at0 h k ≠ at0 other k := by
        apply Classical.byContradiction
        intro z
        refine e (eq_of_at0 I.len J1.len fun k hk => ?_)
        apply Classical.byContradiction
        intro q
        exact z ⟨k, hk, q⟩
      obtain ⟨d, hd, cm2, hw⟩ := deed_toward O.web I J1 cm hne
      have hk := deed_lt hd
      have hgap := gapZ_back I.len hk hw
      have hg2 := gapZ_nn (n := b.n) (one := step h d) (other := other)
      have hcost := cost_back (p := b.p) I.len hk hw
      cases g with
      | zero => omega
      | succ g =>
        have rel : Rel b m c h (dl b h) := by
          rcases J h c hc with z | z | z | ⟨D, z, _⟩
          · cases z
          · cases z
          · exact z
          · cases z
        obtain ⟨c1, h1, h2⟩ := rel d hd
        obtain ⟨c2, h3, h4⟩ := at_end O T J g (step h d) other c1 h1 J1 cm2 (by omega)
        exact ⟨c2, h3, by omega⟩
/-- what the table holds in the end -/
structure Fin (b : Bf) (m : Tbl) : Prop where
  nd : (keys m).Nodup
  is : ∀ h v, lookI m h = some v ↔ (IsH b.n b.r h ∧ comesB b.E b.one h = true) ∧ v = costN b.p b.one h b.n
theorem fin_of (O : BfOk b) (T : TOk b m) (J : Jn b [] [] m none) : Fin b m := by
  refine ⟨T.nd, fun h v => ⟨fun hv => ?_, fun ⟨⟨I, cm⟩, ev⟩ => ?_⟩⟩
  · obtain ⟨a1, a2, a3, _⟩ := T.ok h v hv
    obtain ⟨c1, h1, h2⟩ := T.one
    obtain ⟨c', h3, h4⟩ := at_end O T J _ b.one h c1 h1 a1 a2 (Nat.le_refl _)
    rw [hv] at h3
    cases h3
    exact ⟨⟨a1, a2⟩, by omega⟩
  · obtain ⟨c1, h1, h2⟩ := T.one
    obtain ⟨c', h3, h4⟩ := at_end O T J _ b.one h c1 h1 I cm (Nat.le_refl _)
    have := (T.ok h c' h3).2.2.1
    rw [h3, ev]
    congr 1
    omega
end Lv
/-! Ld10: the law's table of least costs. -/
namespace Lv
open PySem PySem.Spec PyProof.Rows L2 Lw
section
variable {P : Program} {w : World} {K : PySem.W.Frag} {mg : Str → Option Value} {base : Heap} {k : Nat} {x : Str} {ps N : List Str} {st : Stmt}
theorem mk_calD2 (i0 : Nat) (R : List PyData → (List (List Int × Int) → Prop) → Prop) (D : DefG K mg x st) (S : FnScope N ps (defScope st))
    (hb : ∀ (kV doc pm : Value) (an : Option Addr) (cdv ct : Value) (us : List Value), us.length = ps.length → bindArgs (PySem.W.fnOf x x (defArgs st) (defBody st) (defScope st) .none kV doc pm an cdv ct) ⟨us, []⟩ = pure (ps.zip us))
    (body : ∀ (f : Addr) (cdv : Value) (A : Around) (outer : List Env) (s : Shared) (H : Hp) (E : XK), Room k (A.deeper (envOfC x (defScope st) s.heap.objs.size f cdv)) →
      ∃ t1 t2, PSs (cxOf CX0 P w K mg base N x (defScope st) f cdv A outer s H E).nox (defBody st) (tSeq t1 (tSeq t2 (tRet (tVar i0)))) ∧
        ∀ (ds : List PyData) (Pw : List (List Int × Int) → Prop), ds.length = ps.length → R ds Pw → Es K (tSeq t1 t2) (ds.map En.da ++ List.replicate (N.length - ps.length) En.un) { nx := fun ρ' => ∃ l c, ρ'[i0]? = some (.ow l (.dt (mI c))) ∧ Pw c }) :
    Cal P w K mg base (k + 1) x ps (spD K ps.length R) :=
  mk_calD i0 R D S hb fun f cdv A outer s H E hr => let ⟨t1, t2, h1, h2⟩ := body f cdv A outer s H E hr; ⟨tSeq t1 t2, h1, h2⟩
theorem eqv_mapNe {α : Type} {f : α → PyData} (xs : List α) : (!PyData.eqv (.list (xs.map f)) (.list [])) = !xs.isEmpty := by rw [eqv_mapNil]
def R__law_costs : List PyData → (List (List Int × Int) → Prop) → Prop := fun ds Pw => ∃ b : Bf, ds = [webD b.n b.E, .int b.r, encI b.one, .tuple (b.p.map encE)] ∧ BfOk b ∧ (allH b.n b.r).length ≤ 3000 ∧ ∀ c, Fin b c → Pw c
theorem jn_here {b : Bf} {F mo : List (List Int)} {m : Tbl} {h : List Int} (J : Jn b (h :: F) mo m none) : Jn b F mo m (some (h, [])) := fun k c hc => by
  rcases J k c hc with z | z | z | ⟨_, z, _⟩
  · rcases List.mem_cons.mp z with rfl | z
    · exact .inr (.inr (.inr ⟨[], rfl, fun _ z => nomatch z⟩))
    · exact .inl z
  · exact .inr (.inl z)
  · exact .inr (.inr (.inl z))
  · cases z
theorem jn_done {b : Bf} {F mo : List (List Int)} {m : Tbl} {h : List Int} (J : Jn b F mo m (some (h, dl b h))) : Jn b F mo m none := fun k c hc => by
  rcases J k c hc with z | z | z | ⟨D, z, z2⟩
  · exact .inl z
  · exact .inr (.inl z)
  · exact .inr (.inr (.inl z))
  · cases z
    exact .inr (.inr (.inl z2))
theorem jn_more {b : Bf} {F mo : List (List Int)} {m : Tbl} {h : List Int} {D : List Deed} {d : Deed} {c c' : Int} (J : Jn b F mo m (some (h, D))) (hc : lookI m h = some c) (h1 : lookI m (step h d) = some c') (h2 : c' ≤ c + dcost b.p d) : Jn b F mo m (some (h, D ++ [d])) := fun k x hx => by
  rcases J k x hx with z | z | z | ⟨D', z, z2⟩
  · exact .inl z
  · exact .inr (.inl z)
  · exact .inr (.inr (.inl z))
  · cases z
    rw [hc] at hx
    cases hx
    refine .inr (.inr (.inr ⟨_, rfl, fun e he => ?_⟩))
    rcases List.mem_append.mp he with he | he
    · exact z2 e he
    · rw [List.mem_singleton.mp he]
      exact ⟨c', h1, h2⟩
/-- what a pass keeps: the table, the marks, the measure -/
structure Pass (b : Bf) (f0 : Nat) (mo : List (List Int)) (m : Tbl) : Prop where
  t : TOk b m
  nd : mo.Nodup
  sub : ∀ h ∈ mo, h ∈ keys m
  le : phi b m ≤ f0
  lt : mo ≠ [] → phi b m < f0
theorem Pass.put {b : Bf} {f0 : Nat} {mo : List (List Int)} {m : Tbl} {t : List Int} {v : Int} {h : List Int} {c : Int} {d : Deed} (O : BfOk b) (Q : Pass b f0 mo m) (B : Better m t v) (hc : lookI m h = some c) (hd : d ∈ dl b h) (et : t = step h d) (ev : v = c + dcost b.p d) : Pass b f0 (putB mo t) (putI m t v) := by
  have T' := Q.t.put O B hc hd et ev
  have lt := phi_put O Q.t T' B
  have le := Q.le
  refine ⟨T', nodup_putB Q.nd, fun k hk => ?_, by omega, fun _ => by omega⟩
  rw [keys_put]
  rcases mem_putB.mp hk with hk | rfl
  · have := Q.sub k hk
    split
    · exact this
    · exact List.mem_append_left _ this
  · split
    · assumption
    · exact List.mem_append_right _ List.mem_cons_self
theorem step_ne {b : Bf} {h : List Int} {d : Deed} (I : IsH b.n b.r h) (hd : d ∈ dl b h) : step h d ≠ h := fun z => by
  have hk := deed_lt hd
  have hl := I.len
  have e := at0_same (h := h) (d := d) (by omega)
  rw [z] at e
  revert e
  split <;> intro e <;> omega
theorem w__law_costs (B : Bi mg) (D : DefG K mg "_law_costs" s__law_costs) (C__law_after : Cal P w K mg base 3 "_law_after" ["_law_web", "_law_roof", "_law_heights_here"] (spP K 3 R__law_after)) : Cal P w K mg base 4 "_law_costs" ["_law_web", "_law_roof", "_law_heights_here", "_law_prices_here"] (spD K 4 R__law_costs) := by
  refine mk_calD2 (k := 3) (N := ["_law_web", "_law_roof", "_law_heights_here", "_law_prices_here", "_law_found", "_law_fresh", "_law_more", "_law_here", "_law_deed", "_law_there_here", "_law_cost"]) 4 R__law_costs D sc__law_costs (fun _ _ _ _ _ _ us hl => match us, hl with | [_, _, _, _], _ => rfl) (fun f cdv A outer s H E hr => ⟨_, _, (pss_cons (ps_par (i := 4) (j := 5) rfl sc__law_costs.nd rfl rfl (by decide) rfl rfl (pa_cons (pe_disp1 hr.u1 (pv 2) pe_int) (pa_cons (pe_lst (pa_cons (pv 2) pa_nil)) pa_nil)) (by rfl))
      (pss_cons (ps_while PassesOwn.never (pt_cmpR (kop_neD K rfl hr.units) (pv 5) (pe_lst pa_nil) (nomark _)) (pss_cons (ps_set (i := 6) sc__law_costs.nd rfl (by first | exact .inl rfl | exact .inr rfl) pe_dnewT)
      (pss_cons (ps_for PassesOwn.never rfl (kpi_list K rfl (pv 5)) (pg_name (i := 7) sc__law_costs.nd rfl (by first | exact .inl rfl | exact .inr rfl)) (pss_one (ps_for PassesOwn.never rfl (kpi_list K rfl (pe_cal (C__law_after.mono (by decide)) hr (by rfl) (pa_cons (pv 0) (pa_cons (pv 1) (pa_cons (pv 7) pa_nil))))) (kpg_tup K rfl (n := 2) rfl (pgs_cons (pg_name (i := 8) sc__law_costs.nd rfl (by first | exact .inl rfl | exact .inr rfl)) (pgs_cons (pg_name (i := 9) sc__law_costs.nd rfl (by first | exact .inl rfl | exact .inr rfl)) pgs_nil))) (pss_cons (ps_set (i := 10) sc__law_costs.nd rfl (by first | exact .inl rfl | exact .inr rfl) (pe_op op_add (pe_dget hr.u1 (pv 4) (pv 7) (fun _ _ => rfl)) (pe_ix (kix_seq K rfl) (pe_ix (kix_seq K rfl) (pv 3) (pe_ix (kix_seq K rfl) (pv 8) pe_int (fun _ _ => rfl)) (fun _ _ => rfl)) (pe_ifExp (pt_val (pe_ix (kix_seq K rfl) (pv 8) pe_int (fun _ _ => rfl))) pe_int pe_int) (fun _ _ => rfl))))
      (pss_one (ps_if (PW.pt (pw_or (pt_cmp (pc_dnotin hr.u1 (pv 9) (pv 4))) (pw_or1 (pt_cmpR op_lt (pv 10) (pe_dget hr.u1 (pv 4) (pv 9) (fun _ _ => rfl)) (nomark _))))) (pss_cons (ps_dput hr.u1 (pv 4) (pv 9) (pv 10) rfl)
      (pss_one (ps_dput hr.u1 (pv 6) (pv 9) pe_bl rfl))) pss_nil))))))
      (pss_one (ps_set (i := 5) sc__law_costs.nd rfl (by first | exact .inl rfl | exact .inr rfl) (pe_callB (cr_sortedK rfl hr.units) (by rfl) B.sorted (by decide +kernel) (pa_cons (pe_bm0 PySem.F.plainAttrs_dict PySem.F.slot_dict_keys PySem.F.type_dict_keys mt_keysT (pv 6)) pa_nil)))))))
      (pss_one (ps_ret (pv 4))))), fun ds Pw hl hR => ?_⟩)
  obtain ⟨b, rfl, O, hz, hp⟩ := hR
  have W := O.web
  have n4 := W.n4
  have pl := O.p.len
  refine es_seq <| es_parM <| en_disp <| ev_var rfl <| ev_int ⟨b.one, 0, rfl, rfl, ev_lst <| ea_cons <| ev_var rfl <| ea_nil ⟨by simp, fun l no => ?_⟩⟩
  have n1 := W.n1
  have T0 : TOk b [(b.one, 0)] := by
    refine ⟨by simp, fun h c hc => ?_, ⟨0, look_pos rfl, Int.le_refl _⟩⟩
    by_cases e : b.one = h
    · rw [look_pos (q := (b.one, 0)) e] at hc
      cases hc
      subst e
      exact ⟨O.one, comes_self _, by rw [costN_self]; exact Int.le_refl _, by simp⟩
    · rw [look_neg (q := (b.one, 0)) e] at hc
      cases hc
  have J0 : Jn b [b.one] [] [(b.one, 0)] none := fun h c hc => by
    by_cases e : b.one = h
    · exact .inl (by rw [e]; simp)
    · rw [look_neg (q := (b.one, 0)) e] at hc
      cases hc
  refine es_while (fun M ρ' => ∃ (m : Tbl) (fr : List (List Int)) (x6 x7 x8 x9 x10 : En), ρ' = [.da (webD b.n b.E), .da (.int b.r), .da (encI b.one), .da (.tuple (b.p.map encE)), .ow l (.dt (mI m)), .da (.list (fr.map encI)), x6, x7, x8, x9, x10] ∧ TOk b m ∧ Jn b fr [] m none ∧ (∀ h ∈ fr, h ∈ keys m) ∧ M = 2 * phi b m + if fr = [] then 0 else 1)
    ⟨_, [(b.one, 0)], [b.one], _, _, _, _, _, rfl, T0, J0, fun h hh => by rw [List.mem_singleton.mp hh]; simp, rfl⟩ ?_
  rintro M ρ' ⟨m, fr, x6, x7, x8, x9, x10, rfl, T, J, sub, rfl⟩
  refine et_test <| ev_op <| ev_var rfl <| ev_lst <| ea_nil ⟨by simp, rd_ne (okM fun _ => Sh.encI) okNil ⟨_, rfl, ?_⟩⟩
  rw [eqv_mapNe]
  refine ⟨fun e => ?_, fun e => ?_⟩
  · -- a pass
    have hfr : fr ≠ [] := by rintro rfl; cases e
    rw [if_neg hfr]
    refine es_seq <| es_ownD fun l2 no2 => ?_
    refine es_seqM (fun ρ' => ∃ (m' : Tbl) (mo : List (List Int)) (x7 x8 x9 x10 : En), ρ' = [.da (webD b.n b.E), .da (.int b.r), .da (encI b.one), .da (.tuple (b.p.map encE)), .ow l (.dt (mI m')), .da (.list (fr.map encI)), .ow l2 (.dt (mB mo)), x7, x8, x9, x10] ∧ Pass b (phi b m) mo m' ∧ Jn b [] mo m' none) ?_ ?_
    · refine es_for (js := [7]) <| ei_list <| ev_var rfl ⟨_, rfl, fun i ρ' => ∃ (m' : Tbl) (mo : List (List Int)) (x7 x8 x9 x10 : En), ρ' = [.da (webD b.n b.E), .da (.int b.r), .da (encI b.one), .da (.tuple (b.p.map encE)), .ow l (.dt (mI m')), .da (.list (fr.map encI)), .ow l2 (.dt (mB mo)), x7, x8, x9, x10] ∧ Pass b (phi b m) mo m' ∧ Jn b (fr.drop i) mo m' none ∧ ∀ h ∈ fr, h ∈ keys m', fun _ _ _ => trivial, ⟨m, [], _, _, _, _, rfl, ⟨T, List.nodup_nil, (fun _ z => nomatch z), Nat.le_refl _, fun z => absurd rfl z⟩, J, sub⟩, ?_, ?_⟩
      · rintro i d ρ' hd ⟨m', mo, x7, x8, x9, x10, rfl, Q, J', sub'⟩
        have hi : i < fr.length := by
          have := (List.getElem?_eq_some_iff.mp hd).1
          rw [List.length_map] at this
          exact this
        rw [List.getElem?_map, List.getElem?_eq_getElem hi] at hd
        cases hd
        have hmem := List.getElem_mem hi
        rw [List.drop_eq_getElem_cons hi] at J'
        revert hmem J'
        generalize fr[i] = h
        intro J' hmem
        have J1 := jn_here J'
        obtain ⟨c0, hc0⟩ := key_look (sub' h hmem)
        have Ih := (Q.t.ok h c0 hc0).1
        have hl' := Ih.len
        refine g_name <| es_for (js := [8, 9]) <| ei_list <| ev_call <| ea_cons <| ev_var rfl <| ea_cons <| ev_var rfl <| ea_cons <| ev_var rfl <| ea_nil ⟨rfl, b.n, b.E, b.r, h, rfl, W, Ih.len, _, rfl, fun j ρ' => ∃ (m' : Tbl) (mo : List (List Int)) (x8 x9 x10 : En), ρ' = [.da (webD b.n b.E), .da (.int b.r), .da (encI b.one), .da (.tuple (b.p.map encE)), .ow l (.dt (mI m')), .da (.list (fr.map encI)), .ow l2 (.dt (mB mo)), .da (encI h), x8, x9, x10] ∧ Pass b (phi b m) mo m' ∧ Jn b (fr.drop (i + 1)) mo m' (some (h, (dl b h).take j)) ∧ (∀ h ∈ fr, h ∈ keys m') ∧ lookI m' h = some c0, fun _ _ _ => trivial, ⟨m', mo, _, _, _, rfl, Q, J1, sub', hc0⟩, ?_, ?_⟩
        · clear Q J' sub' J1 hc0
          rintro j d' ρ' hd' ⟨m', mo, x8, x9, x10, rfl, Q, J1, sub', hc0⟩
          have hj : j < (dl b h).length := by
            have := (List.getElem?_eq_some_iff.mp hd').1
            rw [List.length_map] at this
            exact this
          rw [List.getElem?_map, show (deedsL b.n b.E b.r h)[j]? = some (dl b h)[j] from List.getElem?_eq_getElem hj] at hd'
          cases hd'
          have et : (dl b h).take (j + 1) = (dl b h).take j ++ [(dl b h)[j]] := by rw [List.take_add_one, List.getElem?_eq_getElem hj]; rfl
          have hdm := List.getElem_mem hj
          revert et hdm
          generalize (dl b h)[j] = e
          intro et hdm
          have hk := deed_lt hdm
          have lm := Q.t.len_le
          have cost : Ev K (tOp (rI0 fun i j => V.int (i + j)) (tDGet (tVar 4) (tVar 7)) (tOp (rIx K) (tOp (rIx K) (tVar 3) (tOp (rIx K) (tVar 8) (tC (V.int 1)))) (tIf (tB (tOp (rIx K) (tVar 8) (tC (V.int 0)))) (tC (V.int 0)) (tC (V.int 1)))))
              [.da (webD b.n b.E), .da (.int b.r), .da (encI b.one), .da (.tuple (b.p.map encE)), .ow l (.dt (mI m')), .da (.list (fr.map encI)), .ow l2 (.dt (mB mo)), .da (encI h), .da (encD e), .da (encI (step h e)), x10]
              fun d ρ1 => d = .int (c0 + dcost b.p e) ∧ ρ1 = [.da (webD b.n b.E), .da (.int b.r), .da (encI b.one), .da (.tuple (b.p.map encE)), .ow l (.dt (mI m')), .da (.list (fr.map encI)), .ow l2 (.dt (mB mo)), .da (encI h), .da (encD e), .da (encI (step h e)), x10] := by
            refine ev_op <| ev_dget ⟨l, _, rfl⟩ <| ev_var rfl ⟨h, c0, l, _, m', rfl, rfl, rfl, rfl, hc0, ?_⟩
            refine ev_op <| ev_op <| ev_var rfl <| ev_op <| ev_var rfl <| ev_int <| rd_ixT rfl <| rd_ixT (atM (pr_get (by omega))) <| ev_if <| et_B <| ev_op <| ev_var rfl <| ev_int <| rd_ixT rfl ⟨_, rfl, fun e1 => ?_, fun e1 => ?_⟩
            · refine ev_int <| rd_ixT rfl <| rd_i ⟨?_, rfl⟩
              unfold dcost
              rw [if_pos e1]
            · refine ev_int <| rd_ixT rfl <| rd_i ⟨?_, rfl⟩
              unfold dcost
              rw [if_neg (by rw [e1]; exact Bool.false_ne_true)]
          refine g_tup2 <| g_name <| g_name <| es_seq <| es_set <| Ev.mono cost ?_
          rintro d ρ1 ⟨rfl, rfl⟩
          -- the improvement
          have better : Better m' (step h e) (c0 + dcost b.p e) → Es K (tSeq (sDPut (tVar 4) (tVar 9) (tVar 10)) (sDPut (tVar 6) (tVar 9) (tC (V.bl true))))
              [.da (webD b.n b.E), .da (.int b.r), .da (encI b.one), .da (.tuple (b.p.map encE)), .ow l (.dt (mI m')), .da (.list (fr.map encI)), .ow l2 (.dt (mB mo)), .da (encI h), .da (encD e), .da (encI (step h e)), .da (.int (c0 + dcost b.p e))]
              { nx := fun ρ' => ∃ (m' : Tbl) (mo : List (List Int)) (x8 x9 x10 : En), ρ' = [.da (webD b.n b.E), .da (.int b.r), .da (encI b.one), .da (.tuple (b.p.map encE)), .ow l (.dt (mI m')), .da (.list (fr.map encI)), .ow l2 (.dt (mB mo)), .da (encI h), x8, x9, x10] ∧ Pass b (phi b m) mo m' ∧ Jn b (fr.drop (i + 1)) mo m' (some (h, (dl b h).take (j + 1))) ∧ (∀ h ∈ fr, h ∈ keys m') ∧ lookI m' h = some c0 } := fun B => by
            have Q' := Q.put O B hc0 hdm rfl rfl
            have J2 := J1.put B
            have hc1 : lookI (putI m' (step h e) (c0 + dcost b.p e)) h = some c0 := by
              rw [look_put, if_neg (fun z => step_ne Ih hdm z.symm)]
              exact hc0
            have ml : mo.length ≤ 3000 := by
              have := Q.nd.length_le_of_subset (l₂ := keys m') Q.sub
              unfold keys at this
              rw [List.length_map] at this
              omega
            refine es_seq <| es_dputI <| ev_var rfl ⟨⟨l, _, rfl⟩, ev_var rfl ⟨_, step h e, l, m', rfl, rfl, rfl, rfl, by omega, ?_⟩⟩
            refine es_dputB <| ev_bl ⟨⟨l2, _, rfl⟩, ev_var rfl ⟨step h e, l2, mo, rfl, rfl, rfl, rfl, by omega, ?_⟩⟩
            refine ⟨_, _, _, _, _, rfl, Q', ?_, fun k hk => ?_, hc1⟩
            · rw [et]
              exact jn_more J2 hc1 (by rw [look_put, if_pos rfl]) (Int.le_refl _)
            · rw [keys_put]
              have := sub' k hk
              split
              · exact this
              · exact List.mem_append_left _ this
          have up : ∀ {t : TS} {ρ : List En} {nx rt}, Es K t ρ { nx := nx } → Es K t ρ { nx := nx, rt := rt, bk := fun _ => False, ct := fun _ => False } := fun h G H σ D st k1 k2 k3 k4 => h G H σ D st k1 (fun _ _ _ _ _ _ _ _ z => z.elim) k3 k4
          refine es_if <| et_or <| et_B <| ev_dninI <| ev_var rfl ⟨step h e, l, _, m', rfl, rfl, rfl, _, rfl, fun e1 => ?_, fun e1 => ?_⟩
          · have B : Better m' (step h e) (c0 + dcost b.p e) := ⟨fun c hc => by rw [hc] at e1; cases e1⟩
            exact Br.t fun G H σ D st k1 k2 k3 k4 => better B G H σ D st k1 (fun _ _ _ _ _ _ _ _ z => z.elim) (fun _ _ _ _ _ z => z.elim) (fun _ _ _ _ _ z => z.elim)
          · obtain ⟨ct, hct⟩ : ∃ ct, lookI m' (step h e) = some ct := by
              cases q : lookI m' (step h e) with
              | none => rw [q] at e1; cases e1
              | some ct => exact ⟨ct, rfl⟩
            refine et_test <| ev_op <| ev_var rfl <| ev_dget ⟨l, _, rfl⟩ <| ev_var rfl ⟨step h e, ct, l, _, m', rfl, rfl, rfl, rfl, hct, rd_b ⟨_, rfl, Br.dec (fun h2 => ?_) (fun h2 => ?_)⟩⟩
            · have B : Better m' (step h e) (c0 + dcost b.p e) := ⟨fun c hc => by rw [hct] at hc; cases hc; exact h2⟩
              exact fun G H σ D st k1 k2 k3 k4 => better B G H σ D st k1 (fun _ _ _ _ _ _ _ _ z => z.elim) (fun _ _ _ _ _ z => z.elim) (fun _ _ _ _ _ z => z.elim)
            · refine es_next ⟨m', mo, _, _, _, rfl, Q, ?_, sub', hc0⟩
              rw [et]
              exact jn_more J1 hc0 hct (by omega)
        · rintro ρ' ⟨m', mo, x8, x9, x10, rfl, Q, J1, sub', hc0⟩
          rw [List.length_map, show (dl b h).take (deedsL b.n b.E b.r h).length = dl b h from List.take_length] at J1
          exact ⟨m', mo, _, _, _, _, rfl, Q, jn_done J1, sub'⟩
      · rintro ρ' ⟨m', mo, x7, x8, x9, x10, rfl, Q, J', sub'⟩
        rw [List.length_map, List.drop_length] at J'
        exact ⟨m', mo, _, _, _, _, rfl, Q, J'⟩
    · rintro ρ' ⟨m', mo, x7, x8, x9, x10, rfl, Q, J'⟩
      refine es_set <| ev_sortKeys rfl (fun h hh => ?_) fun ys pm => ?_
      · obtain ⟨c, hc⟩ := key_look (Q.sub h hh)
        have := (Q.t.ok h c hc).1.len
        rintro rfl
        rw [List.length_nil] at this
        omega
      · refine ⟨_, ?_, m', ys, _, _, _, _, _, rfl, Q.t, fun k c hc => ?_, fun h hh => Q.sub h (pm.mem_iff.mp hh), rfl⟩
        · by_cases ey : ys = []
          · rw [if_pos ey]
            have := Q.le
            omega
          · rw [if_neg ey]
            have := Q.lt fun z => by
              rw [z] at pm
              exact ey (List.Perm.eq_nil pm)
            omega
        · rcases J' k c hc with z | z | z | z
          · cases z
          · exact .inl (pm.mem_iff.mpr z)
          · exact .inr (.inr (.inl z))
          · exact .inr (.inr (.inr z))
  · have hfr : fr = [] := by
      cases fr with
      | nil => rfl
      | cons _ _ => cases e
    subst hfr
    exact ⟨l, m, rfl, hp m (fin_of O T J)⟩
end
end Lv
/-! Ld11: what the law needs. -/
namespace Lv
open PySem PySem.Spec PyProof.Rows L2 Lw
section
variable {K : PySem.W.Frag} {ρ : List En} {te ta tb : TE} {i j : Nat} {PE : EndD}
/-- a, b = e1, e2 by a tuple: e2 a fresh thing -/
theorem es_two {i1 i2 : Nat} {t1 t2 : TE} (h : Ev K t1 ρ fun d1 ρ1 => EvN K t2 ρ1 fun m ρ2 => ∀ p, ¬ Own ρ2 p → PE.nx ((ρ2.set i1 (.da d1)).set i2 (.ow p m))) :
    Es K (tAsg (tTup (tCons t1 (tCons t2 tNil))) (gTup K 2 (gCons (gName i1) (gCons (gName i2) gNil)))) ρ PE := fun G H σ D st k1 _ _ _ =>
  h G H σ _ st fun v1 d1 ρ1 G1 H1 n1 r1 p1 => p1 G1 H1 σ _ n1.st fun p m ρ2 G2 H2 n2 hp no g hm q => by
    refine ⟨by show 2 ≤ sizeLine; decide, fun a ha => ⟨a, _, rfl, .of upd_same, rfl, ?_⟩⟩
    have n5 := Nx.newH (o := .tup [v1, .ref p]) n2.st ha
    obtain ⟨no4, g4, hm4⟩ := fresh_on (G := G) (H := H) n5 no g hm
    have n25 := n2.trans n5
    have r1' := r1.up n25.fr.g
    have m1 := Nx.setDa (i := i1) n5.st r1'
    have no5 : ¬ Own (ρ2.set i1 (.da d1)) p := fun z => (own_set z).elim no4 fun ⟨_, z⟩ => nomatch z
    have m2 := ((n1.trans n25).trans m1).setOwn (i := i2) (n1.fr.free hp) no5 g4 hm4
    exact ⟨_, _, rfl, _, _, rfl, rfl, k1 _ _ _ _ m2 (q p no4)⟩
/-- xs + ys, a fresh list -/
theorem en_cat {P : Mu → List En → Prop} (h : Ev K ta ρ fun x ρ1 => Ev K tb ρ1 fun y ρ2 => ∃ ds es : List PyData, x = .list ds ∧ y = .list es ∧ ds.length + es.length ≤ 100000 ∧ P (.ls (ds ++ es)) ρ2) : EvN K (tOp rCat ta tb) ρ P := fun G H σ Q st k =>
  h G H σ _ st fun u x ρ1 G1 H1 n1 r1 p1 => p1 G1 H1 σ _ n1.st fun v y ρ2 G2 H2 n2 r2 ⟨ds, es, ex, ey, hz, p⟩ => by
    subst ex ey
    have r1 := r1.up n2.fr.g
    cases r1 with
    | lst hs ha =>
      cases r2 with
      | lst hs2 ha2 =>
        rename_i a1 xs1 a2 xs2
        refine ⟨_, _, _, _, rfl, rfl, n2.st.sub _ _ hs, n2.st.sub _ _ hs2, by rw [ha.length, ha2.length]; exact Nat.le_trans hz (by decide), fun a hn => ?_⟩
        have n12 := n1.trans n2
        have n3 := Nx.newH (o := .lst (xs1 ++ xs2)) n2.st hn
        exact k a (.ls (ds ++ es)) ρ2 G2 _ (n12.trans n3) (n12.fr.free hn) (n2.st.noOwn hn) (n2.st.sub.free hn) ⟨_, upd_same, ha.append ha2⟩ p
end
/-! ### the table's keys and the heights that come in -/
def valI (m : Tbl) (h : List Int) : Int := (lookI m h).getD 0
theorem fin_key {b : Bf} {m : Tbl} (F : Fin b m) {h : List Int} : h ∈ keys m ↔ h ∈ comeL b.n b.r b.E b.one := by
  rw [mem_comeL]
  constructor
  · intro hh
    obtain ⟨c, hc⟩ := key_look hh
    exact ((F.is h c).mp hc).1
  · intro hh
    exact look_some_key ((F.is h _).mpr ⟨hh, rfl⟩)
theorem fin_val {b : Bf} {m : Tbl} (F : Fin b m) {h : List Int} (hh : h ∈ keys m) : lookI m h = some (valI m h) ∧ valI m h = costN b.p b.one h b.n := by
  obtain ⟨c, hc⟩ := key_look hh
  have e : valI m h = c := by unfold valI; rw [hc]; rfl
  rw [e]
  exact ⟨hc, ((F.is h c).mp hc).2⟩
theorem fin_perm {b : Bf} {m : Tbl} (F : Fin b m) : (keys m).Perm (comeL b.n b.r b.E b.one) := by
  refine (List.perm_ext_iff_of_nodup F.nd ?_).mpr fun h => fin_key F
  unfold comeL
  exact (allH_nodup b.n b.r).filter _
theorem fin_dear {b : Bf} {m : Tbl} (F : Fin b m) (x : CH) : x ∈ ((keys m).map fun h => (0 - valI m h, h)) ↔ x ∈ dearL b.n b.r b.E b.one b.p := by
  unfold dearL
  rw [List.mem_map, List.mem_map]
  constructor
  · rintro ⟨h, hh, rfl⟩
    exact ⟨h, (fin_key F).mp hh, by rw [(fin_val F hh).2, Int.zero_sub]⟩
  · rintro ⟨h, hh, rfl⟩
    have hh := (fin_key F).mpr hh
    exact ⟨h, hh, by rw [(fin_val F hh).2, Int.zero_sub]⟩
theorem fin_gent {b : Bf} {m : Tbl} (F : Fin b m) (x : CH) : x ∈ (((keys m).filter (softB b.E)).map fun h => (valI m h, h)) ↔ x ∈ gentL b.n b.r b.E b.one b.p := by
  unfold gentL
  rw [List.mem_map, List.mem_map]
  constructor
  · rintro ⟨h, hh, rfl⟩
    obtain ⟨h1, h2⟩ := List.mem_filter.mp hh
    exact ⟨h, List.mem_filter.mpr ⟨(fin_key F).mp h1, h2⟩, by rw [(fin_val F h1).2]⟩
  · rintro ⟨h, hh, rfl⟩
    obtain ⟨h1, h2⟩ := List.mem_filter.mp hh
    have h1 := (fin_key F).mpr h1
    exact ⟨h, List.mem_filter.mpr ⟨h1, h2⟩, by rw [(fin_val F h1).2]⟩
theorem fin_within {b : Bf} {m : Tbl} (F : Fin b m) (most : Int) : ((keys m).filter fun h => decide (valI m h ≤ most)).length = ((comeL b.n b.r b.E b.one).filter fun o => decide (costN b.p b.one o b.n ≤ most)).length := by
  have e : ((keys m).filter fun h => decide (valI m h ≤ most)) = (keys m).filter fun o => decide (costN b.p b.one o b.n ≤ most) := List.filter_congr fun h hh => by rw [(fin_val F hh).2]
  rw [e]
  exact ((fin_perm F).filter _).length_eq
theorem keys_enc (m : Tbl) : (mI m).map (fun p => encI p.1) = (keys m).map encI := by
  unfold mI keys
  rw [List.map_map, List.map_map]
  rfl
theorem map_enc {α : Type} (L : List α) (f : α → CH) : L.map (fun h => encC (f h)) = (L.map f).map encC := by rw [List.map_map]; rfl
theorem one_key {b : Bf} {m : Tbl} (O : BfOk b) (F : Fin b m) : b.one ∈ keys m := (fin_key F).mpr (mem_comeL.mpr ⟨O.one, comes_self _⟩)
/-! ### values -/
def xD (d : Deed) : (Bool ⊕ Int) × Int := (.inl d.1, (d.2 : Int))
theorem encX_xD (w : List Deed) : (w.map xD).map encX = w.map encD := by rw [List.map_map]; rfl
theorem encV_tup (w : List Deed) : encV (.tup (w.map xD)) = encWd w := by show PyData.tuple _ = _; rw [encX_xD]
theorem encV_lst (w : List Deed) : encV (.lst (w.map xD)) = .list (w.map encD) := by show PyData.list _ = _; rw [encX_xD]
def VOk (v : Val) : Prop := vLen v ≤ 100
def valsOf (w : List Deed) : List Val := [.tup (w.map xD), .non, .tup [], .lst (w.map xD), .int 3, .dct, .tup ((w.drop 1).map xD), .tup (w.reverse.map xD), .tup [(.inl true, 9)], .tup [(.inr 1, 0)]]
theorem valsOf_ok {w : List Deed} (h : w.length ≤ 36) : ∀ v ∈ valsOf w, VOk v := by
  intro v hv
  unfold valsOf at hv
  simp only [List.mem_cons, List.not_mem_nil, or_false] at hv
  unfold VOk
  rcases hv with rfl | rfl | rfl | rfl | rfl | rfl | rfl | rfl | rfl | rfl <;> simp [vLen] <;> omega
section
variable {P : Program} {w : World} {K : PySem.W.Frag} {mg : Str → Option Value} {base : Heap}
def R_law : List PyData → (PyData → Prop) → Prop := fun ds Pw => ∃ ns : List Int, ds = [scrD ns] ∧ Pw (.bool true)
def WsOk (n : Nat) (d : PyData) : Prop := d = .none ∨ ∃ ws : List (List Deed), ws.length ≤ 20 ∧ (∀ w ∈ ws, w.length ≤ 36 ∧ ∀ d ∈ w, d.2 < n) ∧ d = .list (ws.map encWd)
theorem Sh.encWd {n : Nat} {w : List Deed} : Sh (n + 2) (encWd w) := Sh.tup (Sh.map fun _ => Sh.encD)
theorem Es.up {t : TS} {ρ : List En} {S : List En → Prop} {PE : EndD} (h : Es K t ρ { nx := S }) : Es K t ρ { PE with nx := S } := fun G H σ D st k1 k2 k3 k4 =>
  h G H σ D st k1 (fun _ _ _ _ _ _ _ _ z => z.elim) (fun _ _ _ _ _ z => z.elim) (fun _ _ _ _ _ z => z.elim)
/-- a statement known by a piece, then the rest -/
theorem es_piece {t u : TS} {ρ : List En} {S : List En → Prop} {PE : EndD} (h : Es K t ρ { nx := S }) (q : ∀ ρ', S ρ' → Es K u ρ' PE) : Es K (tSeq t u) ρ PE := es_seqM S (Es.up h) q
def bodyOf : Stmt → List Stmt
  | .For _ _ b _ _ => b
  | _ => []
end
end Lv
/-! Ld12: the law's statements, each by itself. -/
namespace Lv
open PySem PySem.Spec PyProof.Rows L2 Lw
structure Lc (n r : Nat) (E : Edges) (one other : List Int) (p : List (Int × Int)) (m : Tbl) : Prop where
  T : Tab n r E
  r5 : r ≤ 5
  few : (r + 1) ^ n ≤ 125
  I1 : IsH n r one
  I2 : IsH n r other
  IP : IsP n p
  F : Fin ⟨n, r, E, one, p⟩ m
section
variable {n r : Nat} {E : Edges} {one other : List Int} {p : List (Int × Int)} {m : Tbl}
theorem Lc.Ts (C : Lc n r E one other p m) : Tabs n r E := ⟨C.T, by have := C.few; omega⟩
theorem Lc.O (C : Lc n r E one other p m) : BfOk ⟨n, r, E, one, p⟩ := ⟨C.T.web, C.I1, C.IP⟩
theorem Lc.look (C : Lc n r E one other p m) : lookI m other = if comesB E one other = true then some (costN p one other n) else none := by
  cases q : lookI m other with
  | some c =>
    obtain ⟨⟨_, q2⟩, q3⟩ := (C.F.is other c).mp q
    rw [if_pos q2, q3]
  | none =>
    by_cases e : comesB E one other = true
    · have := (C.F.is other (costN p one other n)).mpr ⟨⟨C.I2, e⟩, rfl⟩
      rw [q] at this
      cases this
    · rw [if_neg e]
theorem Lc.klen (C : Lc n r E one other p m) : (keys m).length ≤ 3000 := by
  rw [(fin_perm C.F).length_eq]
  exact comeL_len C.Ts
theorem Lc.lk (C : Lc n r E one other p m) {h : List Int} (hh : h ∈ keys m) : lookI m h = some (valI m h) := (fin_val C.F hh).1
theorem Lc.dear (C : Lc n r E one other p m) {far : CH} (h : LeastP ((keys m).map fun h => (0 - valI m h, h)) far) : LeastP (dearL n r E one p) far := ⟨(fin_dear C.F far).mp h.mem, fun x hx => h.le x ((fin_dear C.F x).mpr hx)⟩
theorem Lc.far (C : Lc n r E one other p m) {far : CH} (h : LeastP (dearL n r E one p) far) : far.2.length ≤ 1000 ∧ far.1 ≤ 0 ∧ 0 - far.1 ≤ 1000 * r * n := by
  obtain ⟨o', ho, e⟩ := List.mem_map.mp h.mem
  have I3 := (mem_comeL.mp ho).1
  have c0 := costN_nn (one := one) (other := o') C.IP
  have c1 := costN_le C.IP C.I1 I3
  have l3 := I3.len
  have n4 := C.T.web.n4
  rw [← e]
  exact ⟨by show o'.length ≤ 1000; omega, by show -(costN p one o' n) ≤ 0; omega, by show 0 - -(costN p one o' n) ≤ _; omega⟩
end
section
variable {P : Program} {w : World} {K : PySem.W.Frag} {mg : Str → Option Value} {base : Heap}
abbrev un (k : Nat) : List En := List.replicate k .un
abbrev f7 (ns : List Int) (a : Addr) (row : List PyData) (n : Nat) (E0 : Edges) (r : Nat) (one : List Int) (p : List (Int × Int)) (other : List Int) (l : Addr) (m : Tbl) (t : List En) : List En :=
  .da (scrD ns) :: .ow a (.ls row) :: .da (webD n E0) :: .da (.int r) :: .da (encI one) :: .da (.tuple (p.map encE)) :: .da (encI other) :: .ow l (.dt (mI m)) :: t
theorem lp0 (B : Bi mg) (f : Addr) (cdv : Value) (A : Around) (outer : List Env) (s : Shared) (H : Hp) (E : XK) (hr : Room 7 (A.deeper (envOfC "law" (defScope s_law) s.heap.objs.size f cdv))) : ∃ t, PS (cxOf CX0 P w K mg base ["_law_script", "_law_row", "_law_web", "_law_roof", "_law_one", "_law_prices_here", "_law_other", "_law_costs_here", "_law_far", "_law_most", "_law_words", "_law_word_here", "_law_values", "_law_turn", "_law_value", "_law_due", "_law_here", "_law_deed", "_law_up", "_law_k"] "law" (defScope s_law) f cdv A outer s H E).nox ((defBody s_law).getD 0 (.Pass ⟨0, 0, 0, 0⟩)) t ∧
    ∀ ns : List Int, Es K t (.da (scrD ns) :: un 19) { nx := fun ρ' => ∃ a row, ρ' = .da (scrD ns) :: .ow a (.ls row) :: un 18 ∧ RowOk row } := by
  refine ⟨_, (ps_set (i := 1) sc_law.nd rfl (by first | exact .inl rfl | exact .inr rfl) (pe_lst (pa_cons (pv 0) (pa_cons pe_int (pa_cons pe_int (pa_cons pe_int pa_nil)))))), fun ns => ?_⟩
  exact es_own <| ea_cons <| ev_var rfl <| ea_cons <| ev_int <| ea_cons <| ev_int <| ea_cons <| ev_int <| ea_nil ⟨by simp, fun a _ => ⟨a, _, rfl, ns, 0, 9742, 0, rfl, by decide, by decide, by decide⟩⟩
theorem lp1 (B : Bi mg) (C__law_table : Cal P w K mg base 3 "_law_table" ["_law_row", "_law_most", "_law_size"] (spR K 2 R__law_table)) (f : Addr) (cdv : Value) (A : Around) (outer : List Env) (s : Shared) (H : Hp) (E : XK) (hr : Room 7 (A.deeper (envOfC "law" (defScope s_law) s.heap.objs.size f cdv))) : ∃ t, PS (cxOf CX0 P w K mg base ["_law_script", "_law_row", "_law_web", "_law_roof", "_law_one", "_law_prices_here", "_law_other", "_law_costs_here", "_law_far", "_law_most", "_law_words", "_law_word_here", "_law_values", "_law_turn", "_law_value", "_law_due", "_law_here", "_law_deed", "_law_up", "_law_k"] "law" (defScope s_law) f cdv A outer s H E).nox ((defBody s_law).getD 1 (.Pass ⟨0, 0, 0, 0⟩)) t ∧
    ∀ (ns : List Int) (a : Addr) (row : List PyData), RowOk row → Es K t (.da (scrD ns) :: .ow a (.ls row) :: un 18) { nx := fun ρ' => ∃ (n r : Nat) (E0 : Edges) (row : List PyData), ρ' = .da (scrD ns) :: .ow a (.ls row) :: .da (webD n E0) :: .da (.int r) :: un 16 ∧ Web n E0 ∧ 1 ≤ r ∧ r ≤ 5 ∧ (r + 1) ^ n ≤ 125 ∧ RowOk row } := by
  refine ⟨_, (ps_asg (pe_cal (C__law_table.mono (by decide)) hr (by rfl) (pa_cons (pv 1) (pa_cons pe_int (pa_cons pe_int pa_nil)))) (kpg_tup K rfl (n := 2) rfl (pgs_cons (pg_name (i := 2) sc_law.nd rfl (by first | exact .inl rfl | exact .inr rfl)) (pgs_cons (pg_name (i := 3) sc_law.nd rfl (by first | exact .inl rfl | exact .inr rfl)) pgs_nil)))), fun ns a row ok => ?_⟩
  exact es_asg (js := [2, 3]) <| ev_callR rfl <| ea_cons <| ev_int <| ea_cons <| ev_int <| ea_nil ⟨_, rfl, rfl, rfl, ok, fun n r E row1 W r1 r5 hfew ok1 => g_tup2 <| g_name <| g_name ⟨n, r, E, row1, rfl, W, r1, r5, hfew, ok1⟩⟩
theorem lp2 (B : Bi mg) (C__law_heights : Cal P w K mg base 2 "_law_heights" ["_law_row", "_law_many_here", "_law_roof"] (spR K 2 R__law_heights)) (C__law_prices : Cal P w K mg base 3 "_law_prices" ["_law_row", "_law_web"] (spR K 1 R__law_prices)) (f : Addr) (cdv : Value) (A : Around) (outer : List Env) (s : Shared) (H : Hp) (E : XK) (hr : Room 7 (A.deeper (envOfC "law" (defScope s_law) s.heap.objs.size f cdv))) : ∃ t, PS (cxOf CX0 P w K mg base ["_law_script", "_law_row", "_law_web", "_law_roof", "_law_one", "_law_prices_here", "_law_other", "_law_costs_here", "_law_far", "_law_most", "_law_words", "_law_word_here", "_law_values", "_law_turn", "_law_value", "_law_due", "_law_here", "_law_deed", "_law_up", "_law_k"] "law" (defScope s_law) f cdv A outer s H E).nox ((defBody s_law).getD 2 (.Pass ⟨0, 0, 0, 0⟩)) t ∧
    ∀ (ns : List Int) (a : Addr) (row : List PyData) (n r : Nat) (E0 : Edges), RowOk row → Web n E0 → r ≤ 5 → Es K t (.da (scrD ns) :: .ow a (.ls row) :: .da (webD n E0) :: .da (.int r) :: un 16) { nx := fun ρ' => ∃ (one : List Int) (p : List (Int × Int)) (row : List PyData), ρ' = .da (scrD ns) :: .ow a (.ls row) :: .da (webD n E0) :: .da (.int r) :: .da (encI one) :: .da (.tuple (p.map encE)) :: un 14 ∧ IsH n r one ∧ IsP n p ∧ RowOk row } := by
  refine ⟨_, (ps_asg (pe_tup (pa_cons (pe_cal (C__law_heights.mono (by decide)) hr (by rfl) (pa_cons (pv 1) (pa_cons (pe_ix (kix_seq K rfl) (pv 2) pe_int (fun _ _ => rfl)) (pa_cons (pv 3) pa_nil)))) (pa_cons (pe_cal (C__law_prices.mono (by decide)) hr (by rfl) (pa_cons (pv 1) (pa_cons (pv 2) pa_nil))) pa_nil))) (kpg_tup K rfl (n := 2) rfl (pgs_cons (pg_name (i := 4) sc_law.nd rfl (by first | exact .inl rfl | exact .inr rfl)) (pgs_cons (pg_name (i := 5) sc_law.nd rfl (by first | exact .inl rfl | exact .inr rfl)) pgs_nil)))), fun ns a row n r E0 ok W r5 => ?_⟩
  exact es_asg (js := [4, 5]) <| ev_tup <| ea_cons <| ev_callR rfl <| ea_cons <| ev_op <| ev_var rfl <| ev_int <| rd_ixT rfl <| ea_cons <| ev_var rfl <| ea_nil ⟨row, rfl, rfl, n, r, rfl, W.n4, by omega, ok, fun one row2 I1 ok2 => ea_cons <| ev_callR rfl <| ea_cons <| ev_var rfl <| ea_nil ⟨row2, rfl, rfl, n, E0, rfl, W.n4, ok2, fun p row3 IP ok3 => ea_nil ⟨by simp, g_tup2 <| g_name <| g_name ⟨one, p, row3, rfl, I1, IP, ok3⟩⟩⟩⟩
theorem lp3 (B : Bi mg) (C__law_costs : Cal P w K mg base 4 "_law_costs" ["_law_web", "_law_roof", "_law_heights_here", "_law_prices_here"] (spD K 4 R__law_costs)) (C__law_there : Cal P w K mg base 4 "_law_there" ["_law_row", "_law_web", "_law_roof", "_law_heights_here"] (spR K 3 R__law_there)) (f : Addr) (cdv : Value) (A : Around) (outer : List Env) (s : Shared) (H : Hp) (E : XK) (hr : Room 7 (A.deeper (envOfC "law" (defScope s_law) s.heap.objs.size f cdv))) : ∃ t, PS (cxOf CX0 P w K mg base ["_law_script", "_law_row", "_law_web", "_law_roof", "_law_one", "_law_prices_here", "_law_other", "_law_costs_here", "_law_far", "_law_most", "_law_words", "_law_word_here", "_law_values", "_law_turn", "_law_value", "_law_due", "_law_here", "_law_deed", "_law_up", "_law_k"] "law" (defScope s_law) f cdv A outer s H E).nox ((defBody s_law).getD 3 (.Pass ⟨0, 0, 0, 0⟩)) t ∧
    ∀ (ns : List Int) (a : Addr) (row : List PyData) (n r : Nat) (E0 : Edges) (one : List Int) (p : List (Int × Int)), RowOk row → Tab n r E0 → (r + 1) ^ n ≤ 125 → IsH n r one → IsP n p → Es K t (.da (scrD ns) :: .ow a (.ls row) :: .da (webD n E0) :: .da (.int r) :: .da (encI one) :: .da (.tuple (p.map encE)) :: un 14)
      { nx := fun ρ' => ∃ (other : List Int) (m : Tbl) (l : Addr) (row : List PyData), ρ' = f7 ns a row n E0 r one p other l m (un 12) ∧ IsH n r other ∧ Fin ⟨n, r, E0, one, p⟩ m ∧ RowOk row } := by
  refine ⟨_, (ps_asg (pe_tup (pa_cons (pe_cal (C__law_there.mono (by decide)) hr (by rfl) (pa_cons (pv 1) (pa_cons (pv 2) (pa_cons (pv 3) (pa_cons (pv 4) pa_nil))))) (pa_cons (pe_cal (C__law_costs.mono (by decide)) hr (by rfl) (pa_cons (pv 2) (pa_cons (pv 3) (pa_cons (pv 4) (pa_cons (pv 5) pa_nil))))) pa_nil))) (kpg_tup K rfl (n := 2) rfl (pgs_cons (pg_name (i := 6) sc_law.nd rfl (by first | exact .inl rfl | exact .inr rfl)) (pgs_cons (pg_name (i := 7) sc_law.nd rfl (by first | exact .inl rfl | exact .inr rfl)) pgs_nil)))), fun ns a row n r E0 one p ok T few I1 IP => ?_⟩
  exact es_two <| ev_callR rfl <| ea_cons <| ev_var rfl <| ea_cons <| ev_var rfl <| ea_cons <| ev_var rfl <| ea_nil ⟨row, rfl, rfl, n, r, E0, one, rfl, T, I1, ok, fun other row4 I2 ok4 => en_callD <| ea_cons <| ev_var rfl <| ea_cons <| ev_var rfl <| ea_cons <| ev_var rfl <| ea_cons <| ev_var rfl <| ea_nil ⟨rfl, ⟨n, r, E0, one, p⟩, rfl, ⟨T.web, I1, IP⟩, by rw [allH_len]; show (r + 1) ^ n ≤ 3000; omega, fun m F l no => ⟨other, m, l, row4, rfl, I2, F, ok4⟩⟩⟩
section
theorem lp4 (B : Bi mg) (C__law_alike : Cal P w K mg base 4 "_law_alike" ["_law_found", "_law_due"] (spP K 2 R__law_alike)) (C_cheapest : Cal P w K mg base 7 "cheapest" ["web", "roof", "one", "other", "prices"] (spP K 5 R_cheapest)) (f : Addr) (cdv : Value) (A : Around) (outer : List Env) (s : Shared) (H : Hp) (E : XK) (hr : Room 7 (A.deeper (envOfC "law" (defScope s_law) s.heap.objs.size f cdv))) : ∃ t, PS (cxOf CX0 P w K mg base ["_law_script", "_law_row", "_law_web", "_law_roof", "_law_one", "_law_prices_here", "_law_other", "_law_costs_here", "_law_far", "_law_most", "_law_words", "_law_word_here", "_law_values", "_law_turn", "_law_value", "_law_due", "_law_here", "_law_deed", "_law_up", "_law_k"] "law" (defScope s_law) f cdv A outer s H E).nox ((defBody s_law).getD 4 (.Pass ⟨0, 0, 0, 0⟩)) t ∧
    ∀ (ns : List Int) (a l : Addr) (row : List PyData) (n r : Nat) (E0 : Edges) (one other : List Int) (p : List (Int × Int)) (m : Tbl), (Lc n r E0 one other p m → Es K t (f7 ns a row n E0 r one p other l m (un 12)) { nx := fun ρ' => ρ' = f7 ns a row n E0 r one p other l m (un 12) }) := by
  refine ⟨_, (ps_if (pt_not (pt_val (pe_cal (C__law_alike.mono (by decide)) hr (by rfl) (pa_cons (pe_cal (C_cheapest.mono (by decide)) hr (by rfl) (pa_cons (pv 2) (pa_cons (pv 3) (pa_cons (pv 4) (pa_cons (pv 6) (pa_cons (pv 5) pa_nil)))))) (pa_cons (pe_dget2 hr.u1 (pv 7) (pv 6) pe_non ⟨rfl, rfl, rfl, rfl⟩) pa_nil))))) (pss_one (ps_ret pe_bl)) pss_nil), fun ns a l row n r E0 one other p m C => ?_⟩
  refine es_if <| et_not <| et_B <| ev_call <| ea_cons <| ev_call <| ea_cons <| ev_var rfl <| ea_cons <| ev_var rfl <| ea_cons <| ev_var rfl <| ea_cons <| ev_var rfl <| ea_cons <| ev_var rfl <| ea_nil ⟨rfl, n, r, E0, one, other, p, rfl, C.T, C.I1, C.I2, C.IP, ea_cons <| ev_dget2 ⟨l, _, _, rfl, rfl⟩ <| ev_var rfl <| ev_non ⟨other, l, _, m, rfl, rfl, rfl, rfl, ea_nil ⟨rfl, (if comesB E0 one other = true then .int (costN p one other n) else .none), ?_, ?_, true, rfl, Br.f <| es_next rfl⟩⟩⟩
  · rw [C.look]
    split <;> rfl
  · split
    · exact alInt _
    · exact alNon
theorem lp5 (B : Bi mg) (f : Addr) (cdv : Value) (A : Around) (outer : List Env) (s : Shared) (H : Hp) (E : XK) (hr : Room 7 (A.deeper (envOfC "law" (defScope s_law) s.heap.objs.size f cdv))) : ∃ t, PS (cxOf CX0 P w K mg base ["_law_script", "_law_row", "_law_web", "_law_roof", "_law_one", "_law_prices_here", "_law_other", "_law_costs_here", "_law_far", "_law_most", "_law_words", "_law_word_here", "_law_values", "_law_turn", "_law_value", "_law_due", "_law_here", "_law_deed", "_law_up", "_law_k"] "law" (defScope s_law) f cdv A outer s H E).nox ((defBody s_law).getD 5 (.Pass ⟨0, 0, 0, 0⟩)) t ∧
    ∀ (ns : List Int) (a l : Addr) (row : List PyData) (n r : Nat) (E0 : Edges) (one other : List Int) (p : List (Int × Int)) (m : Tbl), (Lc n r E0 one other p m → Es K t (f7 ns a row n E0 r one p other l m (un 12)) { nx := fun ρ' => ∃ far : CH, ρ' = f7 ns a row n E0 r one p other l m (.da (encC far) :: un 11) ∧ LeastP (dearL n r E0 one p) far }) := by
  refine ⟨_, (ps_set (i := 8) sc_law.nd rfl (by first | exact .inl rfl | exact .inr rfl) (pe_callB (kcr_minD K rfl rfl hr.units) (by rfl) B.min (by decide +kernel) (pa_cons (pe_lock (pe_lc (own := [("_law_here", 16)]) rfl sc_law.nd (pi_keysMT (pv 7)) (blkOk_by (N := ["_law_script", "_law_row", "_law_web", "_law_roof", "_law_one", "_law_prices_here", "_law_other", "_law_costs_here", "_law_far", "_law_most", "_law_words", "_law_word_here", "_law_values", "_law_turn", "_law_value", "_law_due", "_law_here", "_law_deed", "_law_up", "_law_k"]) (sc := defScope s_law) (by decide +kernel)) (fun _ _ _ _ _ => (pg_name (i := 16) sc_law.nd rfl (by first | exact .inl rfl | exact .inr rfl))) (fun _ _ _ _ _ => pts_nil) (fun _ _ _ _ _ => (pe_tup (pa_cons (pe_op op_sub pe_int (pe_dget hr.u1 (pv 7) (pv 16) (fun _ _ => rfl))) (pa_cons (pv 16) pa_nil)))))) pa_nil))), fun ns a l row n r E0 one other p m C => ?_⟩
  refine es_set <| ev_cb <| ea_cons <| ev_lock (i := 7) rfl fun o => ev_lcP (α := List Int) (js := [16]) (by decide) <| ei_keys rfl ⟨keys m, encI, fun _ => true, fun h => encC (0 - valI m h, h), rfl, keys_enc m, by have := C.klen; omega, ?_, rfl, ?_⟩
  · intro h hh
    exact g_name <| et_yes ⟨rfl, Br.t <| ev_tup <| ea_cons <| ev_op <| ev_int <| ev_dget ⟨l, _, rfl⟩ <| ev_var rfl ⟨h, valI m h, l, _, m, rfl, rfl, rfl, rfl, C.lk hh, rd_i <| ea_cons <| ev_var rfl <| ea_nil ⟨by simp, rfl, rfl⟩⟩⟩
  · rw [filter_true, map_enc]
    refine ea_nil <| rc_minP (fun z => ?_) fun far hfar => ⟨far, rfl, C.dear hfar⟩
    have := one_key C.O C.F
    rw [List.map_eq_nil_iff.mp z] at this
    cases this
theorem lp6 (B : Bi mg) (C__law_alike : Cal P w K mg base 4 "_law_alike" ["_law_found", "_law_due"] (spP K 2 R__law_alike)) (C_dearest : Cal P w K mg base 6 "dearest" ["web", "roof", "heights", "prices"] (spP K 4 R_dearest)) (f : Addr) (cdv : Value) (A : Around) (outer : List Env) (s : Shared) (H : Hp) (E : XK) (hr : Room 7 (A.deeper (envOfC "law" (defScope s_law) s.heap.objs.size f cdv))) : ∃ t, PS (cxOf CX0 P w K mg base ["_law_script", "_law_row", "_law_web", "_law_roof", "_law_one", "_law_prices_here", "_law_other", "_law_costs_here", "_law_far", "_law_most", "_law_words", "_law_word_here", "_law_values", "_law_turn", "_law_value", "_law_due", "_law_here", "_law_deed", "_law_up", "_law_k"] "law" (defScope s_law) f cdv A outer s H E).nox ((defBody s_law).getD 6 (.Pass ⟨0, 0, 0, 0⟩)) t ∧
    ∀ (ns : List Int) (a l : Addr) (row : List PyData) (n r : Nat) (E0 : Edges) (one other : List Int) (p : List (Int × Int)) (m : Tbl), (∀ far : CH, Lc n r E0 one other p m → LeastP (dearL n r E0 one p) far → Es K t (f7 ns a row n E0 r one p other l m (.da (encC far) :: un 11)) { nx := fun ρ' => ρ' = f7 ns a row n E0 r one p other l m (.da (encC far) :: un 11) }) := by
  refine ⟨_, (ps_if (pt_not (pt_val (pe_cal (C__law_alike.mono (by decide)) hr (by rfl) (pa_cons (pe_cal (C_dearest.mono (by decide)) hr (by rfl) (pa_cons (pv 2) (pa_cons (pv 3) (pa_cons (pv 4) (pa_cons (pv 5) pa_nil))))) (pa_cons (pe_tup (pa_cons (pe_op op_sub pe_int (pe_ix (kix_seq K rfl) (pv 8) pe_int (fun _ _ => rfl))) (pa_cons (pe_ix (kix_seq K rfl) (pv 8) pe_int (fun _ _ => rfl)) pa_nil))) pa_nil))))) (pss_one (ps_ret pe_bl)) pss_nil), fun ns a l row n r E0 one other p m far C hdear => ?_⟩
  refine es_if <| et_not <| et_B <| ev_call <| ea_cons <| ev_call <| ea_cons <| ev_var rfl <| ea_cons <| ev_var rfl <| ea_cons <| ev_var rfl <| ea_cons <| ev_var rfl <| ea_nil ⟨rfl, n, r, E0, one, p, rfl, C.Ts, C.I1, C.IP, fun m' hm' => ea_cons <| ev_tup <| ea_cons <| ev_op <| ev_int <| ev_op <| ev_var rfl <| ev_int <| rd_ixT rfl <| rd_i <| ea_cons <| ev_op <| ev_var rfl <| ev_int <| rd_ixT rfl <| ea_nil ⟨by simp, ea_nil ⟨rfl, encC (-far.1, far.2), ?_, alC _ (C.far hdear).1, true, rfl, Br.f <| es_next rfl⟩⟩⟩
  have e : m' = far := LeastP.uniq (fun _ => Iff.rfl) hm' hdear
  rw [e, Int.zero_sub]
theorem lp7 (B : Bi mg) (C__law_alike : Cal P w K mg base 4 "_law_alike" ["_law_found", "_law_due"] (spP K 2 R__law_alike)) (C__law_steep : Cal P w K mg base 1 "_law_steep" ["_law_web", "_law_heights_here"] (spP K 2 R__law_steep)) (C_cheapest_gentle : Cal P w K mg base 6 "cheapest_gentle" ["web", "roof", "heights", "prices"] (spP K 4 R_cheapest_gentle)) (f : Addr) (cdv : Value) (A : Around) (outer : List Env) (s : Shared) (H : Hp) (E : XK) (hr : Room 7 (A.deeper (envOfC "law" (defScope s_law) s.heap.objs.size f cdv))) : ∃ t, PS (cxOf CX0 P w K mg base ["_law_script", "_law_row", "_law_web", "_law_roof", "_law_one", "_law_prices_here", "_law_other", "_law_costs_here", "_law_far", "_law_most", "_law_words", "_law_word_here", "_law_values", "_law_turn", "_law_value", "_law_due", "_law_here", "_law_deed", "_law_up", "_law_k"] "law" (defScope s_law) f cdv A outer s H E).nox ((defBody s_law).getD 7 (.Pass ⟨0, 0, 0, 0⟩)) t ∧
    ∀ (ns : List Int) (a l : Addr) (row : List PyData) (n r : Nat) (E0 : Edges) (one other : List Int) (p : List (Int × Int)) (m : Tbl), (∀ far : CH, Lc n r E0 one other p m → Es K t (f7 ns a row n E0 r one p other l m (.da (encC far) :: un 11)) { nx := fun ρ' => ρ' = f7 ns a row n E0 r one p other l m (.da (encC far) :: un 11) }) := by
  refine ⟨_, (ps_if (pt_not (pt_val (pe_cal (C__law_alike.mono (by decide)) hr (by rfl) (pa_cons (pe_cal (C_cheapest_gentle.mono (by decide)) hr (by rfl) (pa_cons (pv 2) (pa_cons (pv 3) (pa_cons (pv 4) (pa_cons (pv 5) pa_nil))))) (pa_cons (pe_callB (kcr_minD K rfl rfl hr.units) (by rfl) B.min (by decide +kernel) (pa_cons (pe_lock (pe_lc (own := [("_law_here", 16)]) rfl sc_law.nd (pi_keysMT (pv 7)) (blkOk_by (N := ["_law_script", "_law_row", "_law_web", "_law_roof", "_law_one", "_law_prices_here", "_law_other", "_law_costs_here", "_law_far", "_law_most", "_law_words", "_law_word_here", "_law_values", "_law_turn", "_law_value", "_law_due", "_law_here", "_law_deed", "_law_up", "_law_k"]) (sc := defScope s_law) (by decide +kernel)) (fun _ _ _ _ _ => (pg_name (i := 16) sc_law.nd rfl (by first | exact .inl rfl | exact .inr rfl))) (fun _ _ _ _ _ => (pts_one (pt_cmpR (kop_eqD K rfl hr.units) (pe_cal (C__law_steep.mono (by decide)) hr (by rfl) (pa_cons (pv 2) (pa_cons (pv 16) pa_nil))) (pe_lst pa_nil) (nomark _)))) (fun _ _ _ _ _ => (pe_tup (pa_cons (pe_dget hr.u1 (pv 7) (pv 16) (fun _ _ => rfl)) (pa_cons (pv 16) pa_nil)))))) pa_nil)) pa_nil))))) (pss_one (ps_ret pe_bl)) pss_nil), fun ns a l row n r E0 one other p m far C => ?_⟩
  have n4 := C.T.web.n4
  refine es_if <| et_not <| et_B <| ev_call <| ea_cons <| ev_call <| ea_cons <| ev_var rfl <| ea_cons <| ev_var rfl <| ea_cons <| ev_var rfl <| ea_cons <| ev_var rfl <| ea_nil ⟨rfl, n, r, E0, one, p, rfl, C.Ts, C.I1, C.IP, fun m' hm' => ?_⟩
  refine ea_cons <| ev_cb <| ea_cons <| ev_lock (i := 7) rfl fun o => ev_lcP (α := List Int) (js := [16]) (by decide) <| ei_keys rfl ⟨keys m, encI, softB E0, fun h => encC (valI m h, h), rfl, keys_enc m, by have := C.klen; omega, ?_, rfl, ?_⟩
  · intro h hh
    have Ih := (mem_comeL.mp ((fin_key C.F).mp hh)).1
    refine g_name <| et_test <| ev_op <| ev_call <| ea_cons <| ev_var rfl <| ea_cons <| ev_var rfl <| ea_nil ⟨rfl, n, E0, h, rfl, C.T.web, Ih.len, fun s hs => ev_lst <| ea_nil ⟨by simp, rd_eq (okM fun _ => Sh.eN) okNil ⟨_, rfl, ?_, fun _ => ?_, fun _ => rfl⟩⟩⟩
    · rw [eqv_mapNil, hs]
    · exact ev_tup <| ea_cons <| ev_dget ⟨l, _, rfl⟩ <| ev_var rfl ⟨h, valI m h, l, _, m, rfl, rfl, rfl, rfl, C.lk hh, ea_cons <| ev_var rfl <| ea_nil ⟨by simp, rfl, rfl⟩⟩
  rw [map_enc]
  refine ea_nil <| rc_minP (fun z => ?_) fun m2 hm2 => ea_nil ⟨rfl, encC m', ?_, alC _ ?_, true, rfl, Br.f <| es_next rfl⟩
  · have h1 : (costN p one (List.replicate n 0) n, List.replicate n 0) ∈ gentL n r E0 one p := List.mem_map.mpr ⟨_, zeros_in, rfl⟩
    have := (fin_gent C.F _).mpr h1
    rw [z] at this
    cases this
  · have e : m2 = m' := LeastP.uniq (fin_gent C.F) hm2 hm'
    rw [e]
  · obtain ⟨o', ho, e⟩ := List.mem_map.mp hm'.mem
    have I3 := (mem_comeL.mp (List.mem_filter.mp ho).1).1
    have l3 := I3.len
    rw [← e]
    show o'.length ≤ 1000
    omega
theorem lp8 (B : Bi mg) (C__law_pick : Cal P w K mg base 2 "_law_pick" ["_law_row", "_law_things"] (spR K 1 R__law_pick)) (C__law_taken : Cal P w K mg base 1 "_law_taken" ["_law_row", "_law_many_here"] (spR K 1 R__law_taken)) (f : Addr) (cdv : Value) (A : Around) (outer : List Env) (s : Shared) (H : Hp) (E : XK) (hr : Room 7 (A.deeper (envOfC "law" (defScope s_law) s.heap.objs.size f cdv))) : ∃ t, PS (cxOf CX0 P w K mg base ["_law_script", "_law_row", "_law_web", "_law_roof", "_law_one", "_law_prices_here", "_law_other", "_law_costs_here", "_law_far", "_law_most", "_law_words", "_law_word_here", "_law_values", "_law_turn", "_law_value", "_law_due", "_law_here", "_law_deed", "_law_up", "_law_k"] "law" (defScope s_law) f cdv A outer s H E).nox ((defBody s_law).getD 8 (.Pass ⟨0, 0, 0, 0⟩)) t ∧
    ∀ (ns : List Int) (a l : Addr) (row : List PyData) (n r : Nat) (E0 : Edges) (one other : List Int) (p : List (Int × Int)) (m : Tbl), (∀ far : CH, Lc n r E0 one other p m → LeastP (dearL n r E0 one p) far → RowOk row → Es K t (f7 ns a row n E0 r one p other l m (.da (encC far) :: un 11)) { nx := fun ρ' => ∃ (row : List PyData) (most : Int), ρ' = f7 ns a row n E0 r one p other l m (.da (encC far) :: .da (.int most) :: un 10) ∧ RowOk row ∧ 0 ≤ most ∧ most ≤ 1000 * r * n }) := by
  refine ⟨_, (ps_set (i := 9) sc_law.nd rfl (by first | exact .inl rfl | exact .inr rfl) (pe_cal (C__law_pick.mono (by decide)) hr (by rfl) (pa_cons (pv 1) (pa_cons (pe_lst (pa_cons pe_int (pa_cons (pe_op op_sub pe_int (pe_ix (kix_seq K rfl) (pv 8) pe_int (fun _ _ => rfl))) (pa_cons (pe_cal (C__law_taken.mono (by decide)) hr (by rfl) (pa_cons (pv 1) (pa_cons (pe_op op_sub pe_int (pe_ix (kix_seq K rfl) (pv 8) pe_int (fun _ _ => rfl))) pa_nil))) pa_nil)))) pa_nil)))), fun ns a l row n r E0 one other p m far C hdear ok4 => ?_⟩
  have n4 := C.T.web.n4
  have r5 := C.r5
  have hfl := C.far hdear
  have hrn : (1000 : Int) * r * n ≤ 1000 * 5 * 4 := Int.mul_le_mul (by omega) (by omega) (by omega) (by decide)
  refine es_set <| ev_callR rfl <| ea_cons <| ev_lst <| ea_cons <| ev_int <| ea_cons <| ev_op <| ev_int <| ev_op <| ev_var rfl <| ev_int <| rd_ixT rfl <| rd_i <| ea_cons <| ev_callR rfl <| ea_cons <| ev_op <| ev_int <| ev_op <| ev_var rfl <| ev_int <| rd_ixT rfl <| rd_i <| ea_nil ⟨row, rfl, rfl, _, rfl, by omega, by omega, ok4, fun x row5 x0 x1 ok5 => ea_nil ⟨by simp, ea_nil ⟨row5, rfl, rfl, _, rfl, by simp, by simp, ok5, fun md row6 hmd ok6 => ?_⟩⟩⟩
  simp only [List.mem_cons, List.not_mem_nil, or_false] at hmd
  rcases hmd with rfl | rfl | rfl
  · exact ⟨row6, 0, rfl, ok6, by decide, by omega⟩
  · exact ⟨row6, _, rfl, ok6, by omega, hfl.2.2⟩
  · exact ⟨row6, _, rfl, ok6, x0, by omega⟩
theorem lp9 (B : Bi mg) (C__law_alike : Cal P w K mg base 4 "_law_alike" ["_law_found", "_law_due"] (spP K 2 R__law_alike)) (C_within : Cal P w K mg base 6 "within" ["web", "roof", "heights", "prices", "most"] (spP K 5 R_within)) (f : Addr) (cdv : Value) (A : Around) (outer : List Env) (s : Shared) (H : Hp) (E : XK) (hr : Room 7 (A.deeper (envOfC "law" (defScope s_law) s.heap.objs.size f cdv))) : ∃ t, PS (cxOf CX0 P w K mg base ["_law_script", "_law_row", "_law_web", "_law_roof", "_law_one", "_law_prices_here", "_law_other", "_law_costs_here", "_law_far", "_law_most", "_law_words", "_law_word_here", "_law_values", "_law_turn", "_law_value", "_law_due", "_law_here", "_law_deed", "_law_up", "_law_k"] "law" (defScope s_law) f cdv A outer s H E).nox ((defBody s_law).getD 9 (.Pass ⟨0, 0, 0, 0⟩)) t ∧
    ∀ (ns : List Int) (a l : Addr) (row : List PyData) (n r : Nat) (E0 : Edges) (one other : List Int) (p : List (Int × Int)) (m : Tbl), (∀ (far : CH) (most : Int), Lc n r E0 one other p m → 0 ≤ most → most ≤ 1000 * r * n → Es K t (f7 ns a row n E0 r one p other l m (.da (encC far) :: .da (.int most) :: un 10)) { nx := fun ρ' => ρ' = f7 ns a row n E0 r one p other l m (.da (encC far) :: .da (.int most) :: un 10) }) := by
  refine ⟨_, (ps_if (pt_not (pt_val (pe_cal (C__law_alike.mono (by decide)) hr (by rfl) (pa_cons (pe_cal (C_within.mono (by decide)) hr (by rfl) (pa_cons (pv 2) (pa_cons (pv 3) (pa_cons (pv 4) (pa_cons (pv 5) (pa_cons (pv 9) pa_nil)))))) (pa_cons (pe_callB (kcall_len K rfl) (by rfl) B.len (by decide +kernel) (pa_cons (pe_lock (pe_lc (own := [("_law_here", 16)]) rfl sc_law.nd (pi_keysMT (pv 7)) (blkOk_by (N := ["_law_script", "_law_row", "_law_web", "_law_roof", "_law_one", "_law_prices_here", "_law_other", "_law_costs_here", "_law_far", "_law_most", "_law_words", "_law_word_here", "_law_values", "_law_turn", "_law_value", "_law_due", "_law_here", "_law_deed", "_law_up", "_law_k"]) (sc := defScope s_law) (by decide +kernel)) (fun _ _ _ _ _ => (pg_name (i := 16) sc_law.nd rfl (by first | exact .inl rfl | exact .inr rfl))) (fun _ _ _ _ _ => (pts_one (pt_cmpR op_le (pe_dget hr.u1 (pv 7) (pv 16) (fun _ _ => rfl)) (pv 9) (nomark _)))) (fun _ _ _ _ _ => (pv 16)))) pa_nil)) pa_nil))))) (pss_one (ps_ret pe_bl)) pss_nil), fun ns a l row n r E0 one other p m far most C most0 most1 => ?_⟩
  refine es_if <| et_not <| et_B <| ev_call <| ea_cons <| ev_call <| ea_cons <| ev_var rfl <| ea_cons <| ev_var rfl <| ea_cons <| ev_var rfl <| ea_cons <| ev_var rfl <| ea_cons <| ev_var rfl <| ea_nil ⟨rfl, n, r, E0, one, p, most, rfl, C.Ts, C.I1, C.IP, most0, most1, ?_⟩
  refine ea_cons <| ev_cb <| ea_cons <| ev_lock (i := 7) rfl fun o => ev_lcP (α := List Int) (js := [16]) (by decide) <| ei_keys rfl ⟨keys m, encI, fun h => decide (valI m h ≤ most), encI, rfl, keys_enc m, by have := C.klen; omega, ?_, rfl, ?_⟩
  · intro h hh
    exact g_name <| et_test <| ev_op <| ev_dget ⟨l, _, rfl⟩ <| ev_var rfl ⟨h, valI m h, l, _, m, rfl, rfl, rfl, rfl, C.lk hh, ev_var rfl <| rd_b ⟨_, rfl, rfl, fun _ => ev_var rfl ⟨rfl, rfl⟩, fun _ => rfl⟩⟩
  refine ea_nil <| rc_lenL <| ea_nil ⟨rfl, .int (((comeL n r E0 one).filter fun o => decide (costN p one o n ≤ most)).length : Nat), ?_, alInt _, true, rfl, Br.f <| es_next rfl⟩
  rw [List.length_map, fin_within C.F most]
theorem lp10 (B : Bi mg) (C__law_ways : Cal P w K mg base 4 "_law_ways" ["_law_web", "_law_roof", "_law_one", "_law_other", "_law_most"] (spP K 5 R__law_ways)) (f : Addr) (cdv : Value) (A : Around) (outer : List Env) (s : Shared) (H : Hp) (E : XK) (hr : Room 7 (A.deeper (envOfC "law" (defScope s_law) s.heap.objs.size f cdv))) : ∃ t, PS (cxOf CX0 P w K mg base ["_law_script", "_law_row", "_law_web", "_law_roof", "_law_one", "_law_prices_here", "_law_other", "_law_costs_here", "_law_far", "_law_most", "_law_words", "_law_word_here", "_law_values", "_law_turn", "_law_value", "_law_due", "_law_here", "_law_deed", "_law_up", "_law_k"] "law" (defScope s_law) f cdv A outer s H E).nox ((defBody s_law).getD 10 (.Pass ⟨0, 0, 0, 0⟩)) t ∧
    ∀ (ns : List Int) (a l : Addr) (row : List PyData) (n r : Nat) (E0 : Edges) (one other : List Int) (p : List (Int × Int)) (m : Tbl), (∀ (far : CH) (most : Int), Lc n r E0 one other p m → Es K t (f7 ns a row n E0 r one p other l m (.da (encC far) :: .da (.int most) :: un 10)) { nx := fun ρ' => ∃ d, ρ' = f7 ns a row n E0 r one p other l m (.da (encC far) :: .da (.int most) :: .da d :: un 9) ∧ WsOk n d }) := by
  refine ⟨_, (ps_set (i := 10) sc_law.nd rfl (by first | exact .inl rfl | exact .inr rfl) (pe_ifExp (pt_cmp (pc_din hr.u1 (pv 6) (pv 7))) (pe_cal (C__law_ways.mono (by decide)) hr (by rfl) (pa_cons (pv 2) (pa_cons (pv 3) (pa_cons (pv 4) (pa_cons (pv 6) (pa_cons pe_int pa_nil)))))) (pe_lst pa_nil))), fun ns a l row n r E0 one other p m far most C => ?_⟩
  refine es_set <| ev_if <| et_B <| ev_dinI <| ev_var rfl ⟨other, l, _, m, rfl, rfl, rfl, _, rfl, fun e => ?_, fun e => ?_⟩
  · exact ev_call <| ea_cons <| ev_var rfl <| ea_cons <| ev_var rfl <| ea_cons <| ev_var rfl <| ea_cons <| ev_var rfl <| ea_cons <| ev_int <| ea_nil ⟨rfl, n, r, E0, one, other, rfl, C.T, C.I1, C.I2, ⟨_, rfl, .inl rfl⟩, fun ws h1 h2 => ⟨_, rfl, .inr ⟨ws, h1, h2, rfl⟩⟩⟩
  · exact ev_lst <| ea_nil ⟨by simp, _, rfl, .inr ⟨[], by simp, (fun _ z => nomatch z), rfl⟩⟩
theorem lp11 (B : Bi mg) (f : Addr) (cdv : Value) (A : Around) (outer : List Env) (s : Shared) (H : Hp) (E : XK) (hr : Room 7 (A.deeper (envOfC "law" (defScope s_law) s.heap.objs.size f cdv))) : ∃ t, PS (cxOf CX0 P w K mg base ["_law_script", "_law_row", "_law_web", "_law_roof", "_law_one", "_law_prices_here", "_law_other", "_law_costs_here", "_law_far", "_law_most", "_law_words", "_law_word_here", "_law_values", "_law_turn", "_law_value", "_law_due", "_law_here", "_law_deed", "_law_up", "_law_k"] "law" (defScope s_law) f cdv A outer s H E).nox ((defBody s_law).getD 11 (.Pass ⟨0, 0, 0, 0⟩)) t ∧
    ∀ (ns : List Int) (a l : Addr) (row : List PyData) (n r : Nat) (E0 : Edges) (one other : List Int) (p : List (Int × Int)) (m : Tbl), (∀ (far : CH) (most : Int) (wsd : PyData), WsOk n wsd → Es K t (f7 ns a row n E0 r one p other l m (.da (encC far) :: .da (.int most) :: .da wsd :: un 9)) { nx := fun ρ' => ∃ wo : List Deed, ρ' = f7 ns a row n E0 r one p other l m (.da (encC far) :: .da (.int most) :: .da wsd :: .da (encWd wo) :: un 8) ∧ wo.length ≤ 36 }) := by
  refine ⟨_, (ps_set (i := 11) sc_law.nd rfl (by first | exact .inl rfl | exact .inr rfl) (pe_ifExp (PW.pt (pw_and (pt_cmpR op_notN (pv 10) pe_non (nomark _)) (pw_and1 (pt_cmpR (kop_neD K rfl hr.units) (pv 10) (pe_lst pa_nil) (nomark _))))) (pe_ix (kix_seq K rfl) (pv 10) pe_int (fun _ _ => rfl)) (pe_tup pa_nil))), fun ns a l row n r E0 one other p m far most wsd hws => ?_⟩
  refine es_set <| ev_if <| et_and <| et_test <| ev_op <| ev_var rfl <| ev_non <| rd_notN ⟨_, rfl, fun e => ?_, fun e => ?_⟩
  · rcases hws with rfl | ⟨ws, w1, w2, rfl⟩
    · cases e
    refine et_test <| ev_op <| ev_var rfl <| ev_lst <| ea_nil ⟨by simp, rd_ne (okM fun _ => Sh.encWd) okNil ⟨_, rfl, ?_⟩⟩
    rw [eqv_mapNe]
    refine ⟨fun e2 => ?_, fun e2 => ?_⟩
    · cases ws with
      | nil => cases e2
      | cons w0 ws => exact ev_op <| ev_var rfl <| ev_int <| rd_ixL (d := encWd w0) (atI_nat (j := 0) rfl) ⟨w0, rfl, (w2 w0 List.mem_cons_self).1⟩
    · exact ev_tup <| ea_nil ⟨by simp, [], rfl, by simp⟩
  · exact Br.f <| ev_tup <| ea_nil ⟨by simp, [], rfl, by simp⟩
theorem lp12 (B : Bi mg) (f : Addr) (cdv : Value) (A : Around) (outer : List Env) (s : Shared) (H : Hp) (E : XK) (hr : Room 7 (A.deeper (envOfC "law" (defScope s_law) s.heap.objs.size f cdv))) : ∃ t, PS (cxOf CX0 P w K mg base ["_law_script", "_law_row", "_law_web", "_law_roof", "_law_one", "_law_prices_here", "_law_other", "_law_costs_here", "_law_far", "_law_most", "_law_words", "_law_word_here", "_law_values", "_law_turn", "_law_value", "_law_due", "_law_here", "_law_deed", "_law_up", "_law_k"] "law" (defScope s_law) f cdv A outer s H E).nox ((defBody s_law).getD 12 (.Pass ⟨0, 0, 0, 0⟩)) t ∧
    ∀ (ns : List Int) (a l : Addr) (row : List PyData) (n r : Nat) (E0 : Edges) (one other : List Int) (p : List (Int × Int)) (m : Tbl), (∀ (far : CH) (most : Int) (wsd : PyData) (wo : List Deed), Es K t (f7 ns a row n E0 r one p other l m (.da (encC far) :: .da (.int most) :: .da wsd :: .da (encWd wo) :: un 8)) { nx := fun ρ' => ρ' = f7 ns a row n E0 r one p other l m (.da (encC far) :: .da (.int most) :: .da wsd :: .da (encWd wo) :: .da (.list ((valsOf wo).map encV)) :: un 7) }) := by
  refine ⟨_, (ps_set (i := 12) sc_law.nd rfl (by first | exact .inl rfl | exact .inr rfl) (pe_lst (pa_cons (pv 11) (pa_cons pe_non (pa_cons (pe_tup pa_nil) (pa_cons (pe_callTy (kcall_list_of K rfl) (by rfl) B.list (by decide +kernel) (pa_cons (pv 11) pa_nil)) (pa_cons pe_int (pa_cons pe_dnewK (pa_cons (pe_slice (ksl_tupA K rfl) (pv 11) (po_some pe_int) po_none) (pa_cons (pe_rev (pv 11) (po_some (pe_un un_neg pe_int))) (pa_cons (pe_tup (pa_cons (pe_tup (pa_cons pe_bl (pa_cons pe_int pa_nil))) pa_nil)) (pa_cons (pe_tup (pa_cons (pe_tup (pa_cons pe_int (pa_cons pe_int pa_nil))) pa_nil)) pa_nil)))))))))))), fun ns a l row n r E0 one other p m far most wsd wo => ?_⟩
  refine es_set <| ev_lst <| ea_cons <| ev_var rfl <| ea_cons <| ev_non <| ea_cons <| ev_tup <| ea_nil ⟨by simp, ea_cons <| ev_cb <| ea_cons <| ev_var rfl <| ea_nil <| rc_listT <| ea_cons <| ev_int <| ea_cons <| ev_dnew <| ea_cons <| ev_sl <| ev_var rfl <| eo_part <| ev_int ⟨_, rfl, eo_no <| rs_tup <| ea_cons <| ev_rev <| ev_var rfl <| eo_part <| ev_un <| ev_int <| ru_neg ⟨_, rfl, rfl, _, rfl, ?_⟩⟩⟩
  refine ea_cons <| ev_tup <| ea_cons <| ev_tup <| ea_cons <| ev_bl <| ea_cons <| ev_int <| ea_nil ⟨by simp, ea_nil ⟨by simp, ea_cons <| ev_tup <| ea_cons <| ev_tup <| ea_cons <| ev_int <| ea_cons <| ev_int <| ea_nil ⟨by simp, ea_nil ⟨by simp, ea_nil ⟨by simp, ?_⟩⟩⟩⟩⟩
  have ecut : cutD (wo.map encD) (some 1) none = (wo.map encD).drop 1 := by
    cases wo with
    | nil => rfl
    | cons _ _ => exact cut_drop (k := 1) (by simp)
  rw [ecut]
  have evals : [encWd wo, .none, .tuple [], .list (wo.map encD), .int 3, .dict [], .tuple ((wo.map encD).drop 1), .tuple (wo.map encD).reverse, .tuple [.tuple [.bool true, .int 9]], .tuple [.tuple [.int 1, .int 0]]] = (valsOf wo).map encV := by
    unfold valsOf
    simp only [List.map_cons, List.map_nil, encV_tup, encV_lst]
    rw [← List.map_drop, ← List.map_reverse]
    rfl
  rw [evals]
  rfl
theorem lp13 (B : Bi mg) (f : Addr) (cdv : Value) (A : Around) (outer : List Env) (s : Shared) (H : Hp) (E : XK) (hr : Room 7 (A.deeper (envOfC "law" (defScope s_law) s.heap.objs.size f cdv))) : ∃ t, PS (cxOf CX0 P w K mg base ["_law_script", "_law_row", "_law_web", "_law_roof", "_law_one", "_law_prices_here", "_law_other", "_law_costs_here", "_law_far", "_law_most", "_law_words", "_law_word_here", "_law_values", "_law_turn", "_law_value", "_law_due", "_law_here", "_law_deed", "_law_up", "_law_k"] "law" (defScope s_law) f cdv A outer s H E).nox ((defBody s_law).getD 13 (.Pass ⟨0, 0, 0, 0⟩)) t ∧
    ∀ (ns : List Int) (a l : Addr) (row : List PyData) (n r : Nat) (E0 : Edges) (one other : List Int) (p : List (Int × Int)) (m : Tbl), (∀ (far : CH) (most : Int) (wsd : PyData) (wo : List Deed), wo.length ≤ 36 → Es K t (f7 ns a row n E0 r one p other l m (.da (encC far) :: .da (.int most) :: .da wsd :: .da (encWd wo) :: .da (.list ((valsOf wo).map encV)) :: un 7)) { nx := fun ρ' => ∃ (l2 : Addr) (vs : List Val), ρ' = f7 ns a row n E0 r one p other l m (.da (encC far) :: .da (.int most) :: .da wsd :: .da (encWd wo) :: .ow l2 (.ls (vs.map encV)) :: un 7) ∧ (∀ v ∈ vs, VOk v) ∧ vs.length ≤ 100 }) := by
  refine ⟨_, (ps_set (i := 12) sc_law.nd rfl (by first | exact .inl rfl | exact .inr rfl) (pe_op op_cat (pv 12) (pe_lst (pa_cons (pe_op (kop_catA K rfl) (pv 11) (pe_tup (pa_cons (pe_tup (pa_cons pe_bl (pa_cons pe_int pa_nil))) (pa_cons (pe_tup (pa_cons pe_bl (pa_cons pe_int pa_nil))) pa_nil)))) pa_nil)))), fun ns a l row n r E0 one other p m far most wsd wo hwo => ?_⟩
  have wl : (wo.map encD).length ≤ 36 := by rw [List.length_map]; exact hwo
  refine es_new <| en_cat <| ev_var rfl <| ev_lst <| ea_cons <| ev_op <| ev_var rfl <| ev_tup <| ea_cons <| ev_tup <| ea_cons <| ev_bl <| ea_cons <| ev_int <| ea_nil ⟨by simp, ea_cons <| ev_tup <| ea_cons <| ev_bl <| ea_cons <| ev_int <| ea_nil ⟨by simp, ea_nil ⟨by simp, rd_catT (by simp at wl ⊢; omega) <| ea_nil ⟨by simp, _, _, rfl, rfl, by simp [valsOf], fun l2 no2 => ?_⟩⟩⟩⟩
  have evals2 : (valsOf wo).map encV ++ [PyData.tuple (wo.map encD ++ [.tuple [.bool true, .int 0], .tuple [.bool false, .int 0]])] = (valsOf wo ++ [Val.tup ((wo ++ [(true, 0), (false, 0)]).map xD)]).map encV := by
    rw [List.map_append]
    congr 1
    rw [List.map_cons, List.map_nil, encV_tup]
    show [PyData.tuple _] = [PyData.tuple ((wo ++ [(true, 0), (false, 0)]).map encD)]
    rw [List.map_append]
    rfl
  rw [evals2]
  refine ⟨l2, _, rfl, fun v hv => ?_, by simp [valsOf]⟩
  rcases List.mem_append.mp hv with hv | hv
  · exact valsOf_ok hwo v hv
  · rw [List.mem_singleton.mp hv]
    unfold VOk
    simp [vLen]
    omega
theorem lp14 (B : Bi mg) (C__law_word : Cal P w K mg base 4 "_law_word" ["_law_row", "_law_web", "_law_roof", "_law_heights_here", "_law_most"] (spR K 4 R__law_word)) (f : Addr) (cdv : Value) (A : Around) (outer : List Env) (s : Shared) (H : Hp) (E : XK) (hr : Room 7 (A.deeper (envOfC "law" (defScope s_law) s.heap.objs.size f cdv))) : ∃ t, PS (cxOf CX0 P w K mg base ["_law_script", "_law_row", "_law_web", "_law_roof", "_law_one", "_law_prices_here", "_law_other", "_law_costs_here", "_law_far", "_law_most", "_law_words", "_law_word_here", "_law_values", "_law_turn", "_law_value", "_law_due", "_law_here", "_law_deed", "_law_up", "_law_k"] "law" (defScope s_law) f cdv A outer s H E).nox ((defBody s_law).getD 14 (.Pass ⟨0, 0, 0, 0⟩)) t ∧
    ∀ (ns : List Int) (a l : Addr) (row : List PyData) (n r : Nat) (E0 : Edges) (one other : List Int) (p : List (Int × Int)) (m : Tbl), (∀ (far : CH) (most : Int) (wsd : PyData) (wo : List Deed) (l2 : Addr) (vs : List Val), Tab n r E0 → IsH n r one → RowOk row → (∀ v ∈ vs, VOk v) → vs.length ≤ 100 → Es K t (f7 ns a row n E0 r one p other l m (.da (encC far) :: .da (.int most) :: .da wsd :: .da (encWd wo) :: .ow l2 (.ls (vs.map encV)) :: un 7)) { nx := fun ρ' => ∃ (row : List PyData) (vs : List Val) (x13 : En), ρ' = f7 ns a row n E0 r one p other l m (.da (encC far) :: .da (.int most) :: .da wsd :: .da (encWd wo) :: .ow l2 (.ls (vs.map encV)) :: x13 :: un 6) ∧ ∀ v ∈ vs, VOk v }) := by
  refine ⟨_, (ps_for PassesOwn.never rfl (pi_range1 (by rfl) B.range (pa_cons pe_int pa_nil)) (pg_name (i := 13) sc_law.nd rfl (by first | exact .inl rfl | exact .inr rfl)) (pss_one (ps_expr (pe_bm PySem.F.plainAttrs_list PySem.F.slot_list_append PySem.F.type_list_append mt_append (pv 12) (pa_cons (pe_cal (C__law_word.mono (by decide)) hr (by rfl) (pa_cons (pv 1) (pa_cons (pv 2) (pa_cons (pv 3) (pa_cons (pv 4) (pa_cons pe_int pa_nil)))))) pa_nil))))), fun ns a l row n r E0 one other p m far most wsd wo l2 vs T I1 ok6 vok hvl => ?_⟩
  refine es_for (js := [13]) <| ei_r1 <| ea_cons <| ev_int <| ea_nil ⟨_, rfl, by decide, by decide, fun i ρ' => ∃ (row : List PyData) (vs : List Val) (x13 : En), ρ' = f7 ns a row n E0 r one p other l m (.da (encC far) :: .da (.int most) :: .da wsd :: .da (encWd wo) :: .ow l2 (.ls (vs.map encV)) :: x13 :: un 6) ∧ RowOk row ∧ (∀ v ∈ vs, VOk v) ∧ vs.length ≤ 100 + i, fun _ _ _ => trivial, ⟨row, vs, _, rfl, ok6, vok, by omega⟩, ?_, ?_⟩
  · rintro i d ρ' hd ⟨row, vs, x13, rfl, ok, hv, hvl⟩
    have hi : i < 4 := by
      have := (List.getElem?_eq_some_iff.mp hd).1
      rw [rngD_len] at this
      exact this
    refine g_name <| es_app ⟨_, rfl⟩ <| ev_callR rfl <| ea_cons <| ev_var rfl <| ea_cons <| ev_var rfl <| ea_cons <| ev_var rfl <| ea_cons <| ev_int <| ea_nil ⟨row, rfl, rfl, n, r, E0, one, 6, rfl, T, I1, by decide, ok, fun w2 row' hw1 hw2 ok' => ⟨_, rfl, by rw [List.length_map]; omega, row', vs ++ [Val.tup (w2.map xD)], .da d, ?_, ok', fun v hvv => ?_, by rw [List.length_append, List.length_singleton]; omega⟩⟩
    · rw [List.map_append, List.map_cons, List.map_nil, encV_tup]
      rfl
    · rcases List.mem_append.mp hvv with hvv | hvv
      · exact hv v hvv
      · rw [List.mem_singleton.mp hvv]
        unfold VOk
        simp [vLen]
        omega
  · rintro ρ' ⟨row, vs, x13, rfl, ok, hv, _⟩
    exact ⟨row, vs, x13, rfl, hv⟩
end
end
end Lv
/-! Ld13: the law's values, and the law. -/
namespace Lv
open PySem PySem.Spec PyProof.Rows L2 Lw
section
variable {P : Program} {w : World} {K : PySem.W.Frag} {mg : Str → Option Value} {base : Heap}
section
def dueB (n r : Nat) (E0 : Edges) (one other : List Int) (p : List (Int × Int)) (v : Val) : Bool := if comesB E0 one other = true then showsB n E0 r one other p (costN p one other n) v else nonV v
theorem lq0 (B : Bi mg) (f : Addr) (cdv : Value) (A : Around) (outer : List Env) (s : Shared) (H : Hp) (E : XK) (hr : Room 7 (A.deeper (envOfC "law" (defScope s_law) s.heap.objs.size f cdv))) : ∃ t, PS (cxOf CX0 P w K mg base ["_law_script", "_law_row", "_law_web", "_law_roof", "_law_one", "_law_prices_here", "_law_other", "_law_costs_here", "_law_far", "_law_most", "_law_words", "_law_word_here", "_law_values", "_law_turn", "_law_value", "_law_due", "_law_here", "_law_deed", "_law_up", "_law_k"] "law" (defScope s_law) f cdv A outer s H E).nox ((bodyOf ((defBody s_law).getD 15 (.Pass ⟨0, 0, 0, 0⟩))).getD 0 (.Pass ⟨0, 0, 0, 0⟩)) t ∧
    ∀ (ns : List Int) (a l : Addr) (row : List PyData) (n r : Nat) (E0 : Edges) (one other : List Int) (p : List (Int × Int)) (m : Tbl), (∀ (x8 x9 x10 x11 x12 x13 x15 x16 x17 x18 x19 : En) (v : Val), Es K t (f7 ns a row n E0 r one p other l m [x8, x9, x10, x11, x12, x13, .da (encV v), x15, x16, x17, x18, x19]) { nx := fun ρ' => ρ' = f7 ns a row n E0 r one p other l m [x8, x9, x10, x11, x12, x13, .da (encV v), .da (.bool (nonV v)), x16, x17, x18, x19] }) := by
  refine ⟨_, (ps_set (i := 15) sc_law.nd rfl (by first | exact .inl rfl | exact .inr rfl) (pe_cmpR op_isN (pv 14) pe_non (nomark _))), fun ns a l row n r E0 one other p m x8 x9 x10 x11 x12 x13 x15 x16 x17 x18 x19 v => ?_⟩
  refine es_set <| ev_op <| ev_var rfl <| ev_non <| rd_isN ?_
  rw [nonB_encV]
  rfl
theorem lq1 (B : Bi mg) (C__law_is_deed : Cal P w K mg base 2 "_law_is_deed" ["_law_web", "_law_value"] (spP K 2 R__law_is_deed)) (C__law_run : Cal P w K mg base 3 "_law_run" ["_law_web", "_law_roof", "_law_heights_here", "_law_word_here"] (spP K 4 R__law_run)) (f : Addr) (cdv : Value) (A : Around) (outer : List Env) (s : Shared) (H : Hp) (E : XK) (hr : Room 7 (A.deeper (envOfC "law" (defScope s_law) s.heap.objs.size f cdv))) : ∃ t, PS (cxOf CX0 P w K mg base ["_law_script", "_law_row", "_law_web", "_law_roof", "_law_one", "_law_prices_here", "_law_other", "_law_costs_here", "_law_far", "_law_most", "_law_words", "_law_word_here", "_law_values", "_law_turn", "_law_value", "_law_due", "_law_here", "_law_deed", "_law_up", "_law_k"] "law" (defScope s_law) f cdv A outer s H E).nox ((bodyOf ((defBody s_law).getD 15 (.Pass ⟨0, 0, 0, 0⟩))).getD 1 (.Pass ⟨0, 0, 0, 0⟩)) t ∧
    ∀ (ns : List Int) (a l : Addr) (row : List PyData) (n r : Nat) (E0 : Edges) (one other : List Int) (p : List (Int × Int)) (m : Tbl), (∀ (x8 x9 x10 x11 x12 x13 x16 x17 x18 x19 : En) (v : Val), Lc n r E0 one other p m → VOk v → Es K t (f7 ns a row n E0 r one p other l m [x8, x9, x10, x11, x12, x13, .da (encV v), .da (.bool (nonV v)), x16, x17, x18, x19]) { nx := fun ρ' => ∃ y16 y17 y18 y19, ρ' = f7 ns a row n E0 r one p other l m [x8, x9, x10, x11, x12, x13, .da (encV v), .da (.bool (dueB n r E0 one other p v)), y16, y17, y18, y19] }) := by
  refine ⟨_, (ps_if (pt_cmp (pc_din hr.u1 (pv 6) (pv 7))) (pss_cons (ps_set (i := 15) sc_law.nd rfl (by first | exact .inl rfl | exact .inr rfl) (pe_and (pe_callB (kcall_isi K rfl) (by rfl) B.isinstance (by decide +kernel) (pa_cons (pv 14) (pa_cons (pe_bltn (v := .ty "tuple") (by rfl) B.tuple (by decide +kernel) rfl) pa_nil))) (pe_one (pe_cmpR (kop_eqD K rfl hr.units) (pe_lc (own := [("_law_deed", 17)]) rfl sc_law.nd (kpi_tup K rfl (pv 14)) (blkOk_by (N := ["_law_script", "_law_row", "_law_web", "_law_roof", "_law_one", "_law_prices_here", "_law_other", "_law_costs_here", "_law_far", "_law_most", "_law_words", "_law_word_here", "_law_values", "_law_turn", "_law_value", "_law_due", "_law_here", "_law_deed", "_law_up", "_law_k"]) (sc := defScope s_law) (by decide +kernel)) (fun _ _ _ _ _ => (pg_name (i := 17) sc_law.nd rfl (by first | exact .inl rfl | exact .inr rfl))) (fun _ _ _ _ _ => (pts_one (pt_not (pt_val (pe_cal (C__law_is_deed.mono (by decide)) hr (by rfl) (pa_cons (pv 2) (pa_cons (pv 17) pa_nil))))))) (fun _ _ _ _ _ => (pv 17))) (pe_lst pa_nil) (nomark _)))))
      (pss_cons (ps_set (i := 15) sc_law.nd rfl (by first | exact .inl rfl | exact .inr rfl) (pe_and (pv 15) (pe_one (pe_cmpR (kop_eqD K rfl hr.units) (pe_cal (C__law_run.mono (by decide)) hr (by rfl) (pa_cons (pv 2) (pa_cons (pv 3) (pa_cons (pv 4) (pa_cons (pv 14) pa_nil))))) (pv 6) (nomark _)))))
      (pss_one (ps_set (i := 15) sc_law.nd rfl (by first | exact .inl rfl | exact .inr rfl) (pe_and (pv 15) (pe_one (pe_cmpR (kop_eqD K rfl hr.units) (pe_callB (kcr_sum K rfl rfl) (by rfl) B.sum (by decide +kernel) (pa_cons (pe_lc (own := [("_law_up", 18), ("_law_k", 19)]) rfl sc_law.nd (kpi_tup K rfl (pv 14)) (blkOk_by (N := ["_law_script", "_law_row", "_law_web", "_law_roof", "_law_one", "_law_prices_here", "_law_other", "_law_costs_here", "_law_far", "_law_most", "_law_words", "_law_word_here", "_law_values", "_law_turn", "_law_value", "_law_due", "_law_here", "_law_deed", "_law_up", "_law_k"]) (sc := defScope s_law) (by decide +kernel)) (fun _ _ _ _ _ => (kpg_tup K rfl (n := 2) rfl (pgs_cons (pg_name (i := 18) sc_law.nd rfl (by first | exact .inl rfl | exact .inr rfl)) (pgs_cons (pg_name (i := 19) sc_law.nd rfl (by first | exact .inl rfl | exact .inr rfl)) pgs_nil)))) (fun _ _ _ _ _ => pts_nil) (fun _ _ _ _ _ => (pe_ix (kix_seq K rfl) (pe_ix (kix_seq K rfl) (pv 5) (pv 19) (fun _ _ => rfl)) (pe_ifExp (pt_val (pv 18)) pe_int pe_int) (fun _ _ => rfl)))) pa_nil)) (pe_dget hr.u1 (pv 7) (pv 6) (fun _ _ => rfl)) (nomark _)))))))) pss_nil), fun ns a l row n r E0 one other p m x8 x9 x10 x11 x12 x13 x16 x17 x18 x19 v C hvl => ?_⟩
  have n4 := C.T.web.n4
  unfold dueB
  refine es_if <| et_B <| ev_dinI <| ev_var rfl ⟨other, l, _, m, rfl, rfl, rfl, _, rfl, ?_⟩
  rw [C.look]
  by_cases hc : comesB E0 one other = true
  · rw [if_pos hc, if_pos hc]
    refine Br.t ?_
    have hlook : lookI m other = some (costN p one other n) := by rw [C.look, if_pos hc]
    refine es_seq <| es_set <| ev_andV <| ev_isi kit_tuple <| ev_var rfl ⟨_, rfl, ?_⟩
    cases v with
    | tup xs =>
      have hvl : xs.length ≤ 100 := hvl
      refine Br.t <| ev_op <| ev_lcP (α := (Bool ⊕ Int) × Int) (js := [17]) (by decide) <| ei_tup <| ev_var rfl ⟨_, rfl, xs, encX, fun x => !isDeedB n x, encX, trivial, rfl, by omega, ?_, ?_⟩
      · intro x hx
        exact g_name <| et_not <| et_B <| ev_call <| ea_cons <| ev_var rfl <| ea_cons <| ev_var rfl <| ea_nil ⟨rfl, n, E0, x, rfl, _, rfl, rfl, fun _ => ev_var rfl ⟨rfl, rfl⟩, fun _ => rfl⟩
      refine ev_lst <| ea_nil ⟨by simp, rd_eq (okM fun x => ?_) okNil ?_⟩
      · unfold encX
        refine Sh.tup (Sh.cons ?_ (Sh.cons Sh.int Sh.nil))
        cases x.1
        · exact Sh.bool
        · exact Sh.int
      rw [eqv_mapNil, all_isEmpty]
      have esb : showsB n E0 r one other p (costN p one other n) (.tup xs) = (xs.all (isDeedB n) && goodW n E0 r one other p (costN p one other n) (xs.map deedX)) := rfl
      rw [esb]
      refine es_seq <| es_set <| ev_andV <| ev_var rfl ⟨_, rfl, fun e2 => ?_, fun e2 => ?_⟩
      · have e4 : encV (.tup xs) = encWd (xs.map deedX) := by
          show PyData.tuple (xs.map encX) = _
          rw [encX_map e2]
        have hd : ∀ d ∈ xs.map deedX, d.2 < n := fun d hd => by
          obtain ⟨x, hx, rfl⟩ := List.mem_map.mp hd
          exact (encX_deed (List.all_eq_true.mp e2 x hx)).2
        have hlen : (xs.map deedX).length ≤ 100 := by rw [List.length_map]; exact hvl
        rw [e4, e2, Bool.true_and]
        revert hd hlen
        generalize xs.map deedX = ws
        intro hd hlen
        unfold goodW
        refine ev_op <| ev_call <| ea_cons <| ev_var rfl <| ea_cons <| ev_var rfl <| ea_cons <| ev_var rfl <| ea_cons <| ev_var rfl <| ea_nil ⟨rfl, n, r, E0, one, ws, rfl, C.T.web, C.I1.len, ev_var rfl <| rd_eq ?_ okE ?_⟩
        · cases runW n E0 r one ws with
          | none => exact okN
          | some z => exact okE
        have erun : PyData.eqv (runD (runW n E0 r one ws)) (encI other) = decide (runW n E0 r one ws = some other) := by
          cases runW n E0 r one ws with
          | none => simp [PyData.eqv, runD]
          | some z =>
            show PyData.eqv (encI z) (encI other) = _
            rw [eqv_encI]
            exact decide_eq_decide.mpr ⟨fun q => by rw [q], fun q => Option.some.inj q⟩
        rw [erun]
        refine es_set <| ev_andV <| ev_var rfl ⟨_, rfl, fun e3 => ?_, fun e3 => ?_⟩
        · refine ev_op <| ev_cb <| ea_cons <| ev_lcP (α := Deed) (js := [18, 19]) (by decide) <| ei_tup <| ev_var rfl ⟨_, rfl, ws, encD, fun _ => true, fun d => .int (dcost p d), trivial, rfl, by omega, ?_, ?_⟩
          · intro d hdm
            have hdn := hd d hdm
            have pl := C.IP.len
            refine g_tup2 <| g_name <| g_name <| et_yes ⟨rfl, Br.t <| ev_op <| ev_op <| ev_var rfl <| ev_var rfl <| rd_ixT (atM (pr_get (by omega))) <| ev_if <| et_B <| ev_var rfl ⟨_, rfl, fun e5 => ?_, fun e5 => ?_⟩⟩
            · refine ev_int <| rd_ixT rfl ⟨?_, rfl⟩
              show _ = PyData.int (dcost p d)
              unfold dcost
              rw [if_pos e5]
            · refine ev_int <| rd_ixT rfl ⟨?_, rfl⟩
              show _ = PyData.int (dcost p d)
              unfold dcost
              rw [if_neg (by rw [e5]; exact Bool.false_ne_true)]
          rw [filter_true]
          have e5 : ws.map (fun d => PyData.int (dcost p d)) = (ws.map (dcost p)).map PyData.int := by rw [List.map_map]; rfl
          rw [e5]
          refine ea_nil <| rc_sum <| ev_dget ⟨l, _, rfl⟩ <| ev_var rfl ⟨other, _, l, _, m, rfl, rfl, rfl, rfl, hlook, rd_eq okI okI ?_⟩
          rw [eqv_int, e3, Bool.true_and]
          exact ⟨_, _, _, _, rfl⟩
        · rw [e3, Bool.false_and]
          exact ⟨_, _, _, _, rfl⟩
      · rw [e2, Bool.false_and]
        refine es_set <| ev_andV <| ev_var rfl ⟨_, rfl, Br.f ?_⟩
        exact ⟨_, _, _, _, rfl⟩
    | _ =>
      refine Br.f <| es_seq <| es_set <| ev_andV <| ev_var rfl ⟨_, rfl, Br.f ?_⟩
      refine es_set <| ev_andV <| ev_var rfl ⟨_, rfl, Br.f ?_⟩
      exact ⟨_, _, _, _, rfl⟩
  · rw [if_neg hc, if_neg hc]
    refine Br.f <| es_next ?_
    exact ⟨_, _, _, _, rfl⟩
theorem lq2 (B : Bi mg) (C__law_alike : Cal P w K mg base 4 "_law_alike" ["_law_found", "_law_due"] (spP K 2 R__law_alike)) (C_shows_cheap : Cal P w K mg base 7 "shows_cheap" ["web", "roof", "one", "other", "prices", "value"] (spP K 6 R_shows_cheap)) (f : Addr) (cdv : Value) (A : Around) (outer : List Env) (s : Shared) (H : Hp) (E : XK) (hr : Room 7 (A.deeper (envOfC "law" (defScope s_law) s.heap.objs.size f cdv))) : ∃ t, PS (cxOf CX0 P w K mg base ["_law_script", "_law_row", "_law_web", "_law_roof", "_law_one", "_law_prices_here", "_law_other", "_law_costs_here", "_law_far", "_law_most", "_law_words", "_law_word_here", "_law_values", "_law_turn", "_law_value", "_law_due", "_law_here", "_law_deed", "_law_up", "_law_k"] "law" (defScope s_law) f cdv A outer s H E).nox ((bodyOf ((defBody s_law).getD 15 (.Pass ⟨0, 0, 0, 0⟩))).getD 2 (.Pass ⟨0, 0, 0, 0⟩)) t ∧
    ∀ (ns : List Int) (a l : Addr) (row : List PyData) (n r : Nat) (E0 : Edges) (one other : List Int) (p : List (Int × Int)) (m : Tbl), (∀ (x8 x9 x10 x11 x12 x13 x16 x17 x18 x19 : En) (v : Val), Lc n r E0 one other p m → VOk v → Es K t (f7 ns a row n E0 r one p other l m [x8, x9, x10, x11, x12, x13, .da (encV v), .da (.bool (dueB n r E0 one other p v)), x16, x17, x18, x19]) { nx := fun ρ' => ρ' = f7 ns a row n E0 r one p other l m [x8, x9, x10, x11, x12, x13, .da (encV v), .da (.bool (dueB n r E0 one other p v)), x16, x17, x18, x19] }) := by
  refine ⟨_, (ps_if (pt_not (pt_val (pe_cal (C__law_alike.mono (by decide)) hr (by rfl) (pa_cons (pe_cal (C_shows_cheap.mono (by decide)) hr (by rfl) (pa_cons (pv 2) (pa_cons (pv 3) (pa_cons (pv 4) (pa_cons (pv 6) (pa_cons (pv 5) (pa_cons (pv 14) pa_nil))))))) (pa_cons (pv 15) pa_nil))))) (pss_one (ps_ret pe_bl)) pss_nil), fun ns a l row n r E0 one other p m x8 x9 x10 x11 x12 x13 x16 x17 x18 x19 v C hvl => ?_⟩
  have hvl : vLen v ≤ 100 := hvl
  exact es_if <| et_not <| et_B <| ev_call <| ea_cons <| ev_call <| ea_cons <| ev_var rfl <| ea_cons <| ev_var rfl <| ea_cons <| ev_var rfl <| ea_cons <| ev_var rfl <| ea_cons <| ev_var rfl <| ea_cons <| ev_var rfl <| ea_nil ⟨rfl, n, r, E0, one, other, p, v, rfl, C.T, C.I1, C.I2, C.IP, by omega, ea_cons <| ev_var rfl <| ea_nil ⟨rfl, _, rfl, alBool _, true, rfl, Br.f <| es_next rfl⟩⟩
theorem lp15 (B : Bi mg) (C__law_alike : Cal P w K mg base 4 "_law_alike" ["_law_found", "_law_due"] (spP K 2 R__law_alike)) (C__law_is_deed : Cal P w K mg base 2 "_law_is_deed" ["_law_web", "_law_value"] (spP K 2 R__law_is_deed)) (C__law_run : Cal P w K mg base 3 "_law_run" ["_law_web", "_law_roof", "_law_heights_here", "_law_word_here"] (spP K 4 R__law_run)) (C_shows_cheap : Cal P w K mg base 7 "shows_cheap" ["web", "roof", "one", "other", "prices", "value"] (spP K 6 R_shows_cheap)) (f : Addr) (cdv : Value) (A : Around) (outer : List Env) (s : Shared) (H : Hp) (E : XK) (hr : Room 7 (A.deeper (envOfC "law" (defScope s_law) s.heap.objs.size f cdv))) : ∃ t, PS (cxOf CX0 P w K mg base ["_law_script", "_law_row", "_law_web", "_law_roof", "_law_one", "_law_prices_here", "_law_other", "_law_costs_here", "_law_far", "_law_most", "_law_words", "_law_word_here", "_law_values", "_law_turn", "_law_value", "_law_due", "_law_here", "_law_deed", "_law_up", "_law_k"] "law" (defScope s_law) f cdv A outer s H E).nox ((defBody s_law).getD 15 (.Pass ⟨0, 0, 0, 0⟩)) t ∧
    ∀ (ns : List Int) (a l : Addr) (row : List PyData) (n r : Nat) (E0 : Edges) (one other : List Int) (p : List (Int × Int)) (m : Tbl), (∀ (far : CH) (most : Int) (wsd : PyData) (wo : List Deed) (l2 : Addr) (vs : List Val) (x13 : En), Lc n r E0 one other p m → (∀ v ∈ vs, VOk v) → Es K t (f7 ns a row n E0 r one p other l m (.da (encC far) :: .da (.int most) :: .da wsd :: .da (encWd wo) :: .ow l2 (.ls (vs.map encV)) :: x13 :: un 6)) { nx := fun _ => True }) := by
  obtain ⟨t0, s0, h0⟩ := lq0 B  f cdv A outer s H E hr
  obtain ⟨t1, s1, h1⟩ := lq1 B C__law_is_deed C__law_run f cdv A outer s H E hr
  obtain ⟨t2, s2, h2⟩ := lq2 B C__law_alike C_shows_cheap f cdv A outer s H E hr
  refine ⟨_, ps_for PassesOwn.never rfl (kpi_list K rfl (pv 12)) (pg_name (i := 14) sc_law.nd rfl (by first | exact .inl rfl | exact .inr rfl)) (pss_cons s0 (pss_cons s1 (pss_one s2))), fun ns a l row n r E0 one other p m far most wsd wo l2 vs x13 C hv => ?_⟩
  refine es_for (js := [14]) <| ei_list <| ev_take rfl ⟨_, rfl, fun i ρ' => ∃ x14 x15 x16 x17 x18 x19, ρ' = f7 ns a row n E0 r one p other l m [.da (encC far), .da (.int most), .da wsd, .da (encWd wo), .da (.list (vs.map encV)), x13, x14, x15, x16, x17, x18, x19], fun _ _ _ => trivial, ⟨_, _, _, _, _, _, rfl⟩, ?_, fun _ _ => trivial⟩
  rintro i d ρ' hd ⟨x14, x15, x16, x17, x18, x19, rfl⟩
  rw [List.getElem?_map] at hd
  cases hg : vs[i]? with
  | none => rw [hg] at hd; cases hd
  | some v =>
    rw [hg] at hd
    cases hd
    have hvl := hv v (List.mem_of_getElem? hg)
    refine g_name <| es_piece (h0 ns a l row n r E0 one other p m _ _ _ _ _ _ _ _ _ _ _ v) ?_
    rintro ρ' rfl
    refine es_piece (h1 ns a l row n r E0 one other p m _ _ _ _ _ _ _ _ _ _ v C hvl) ?_
    rintro ρ' ⟨y16, y17, y18, y19, rfl⟩
    refine fun G H σ D st k1 k2 k3 k4 => h2 ns a l row n r E0 one other p m _ _ _ _ _ _ _ _ _ _ v C hvl G H σ D st (fun σ' ρ' G' H' nx e => k1 σ' ρ' G' H' nx ?_) (fun _ _ _ _ _ _ _ _ z => z.elim) (fun _ _ _ _ _ z => z.elim) (fun _ _ _ _ _ z => z.elim)
    exact ⟨_, _, _, _, _, _, e⟩
end
theorem mk_fn {k : Nat} {x : Str} {ps N : List Str} {st : Stmt} {f : Addr} {fd : FuncData} (R : List PyData → (PyData → Prop) → Prop) (F : Fun K x x st f fd) (S : FnScope N ps (defScope st))
    (body : ∀ (f : Addr) (cdv : Value) (A : Around) (outer : List Env) (s : Shared) (H : Hp) (E : XK), Room k (A.deeper (envOfC x (defScope st) s.heap.objs.size f cdv)) →
      ∃ t, PSs (cxOf CX0 P w K mg base N x (defScope st) f cdv A outer s H E).nox (defBody st) t ∧
        ∀ (ds : List PyData) (Pw : PyData → Prop), ds.length = ps.length → R ds Pw → Es K t (ds.map En.da ++ List.replicate (N.length - ps.length) En.un) { nx := fun _ => Pw .none, rt := fun d _ => Pw d }) :
    FnOk P w K mg base CX0 (k + 1) f fd ps (spP K ps.length R) := by
  refine F.ok S (fun vs H Q E h => h.1) (fun cdv A outer s H vs Q E hr h => ?_)
  obtain ⟨t, h1, h2⟩ := body f cdv A outer s H E hr
  refine ⟨t, h1, ?_⟩
  obtain ⟨hl, G, ds, hs, hrp, Pw, hR, q⟩ := h
  have e : L2.start N vs = vs.map some ++ List.replicate (N.length - ps.length) none := by unfold L2.start; rw [hl]
  rw [e]
  have fin : ∀ {G' H' : Hp}, Fr (Own (ds.map En.da ++ List.replicate (N.length - ps.length) En.un)) G H G' H' → Fr none0 G H G' H' := fun f => f.mono fun l z => (start_noOwn z).elim
  refine h2 ds Pw (by rw [← hrp.length]; exact hl) hR G H _ _ (sts_start hs hrp) (fun σ' ρ' G' H' n p => ?_) (fun v d σ' ρ' G' H' n r p => ?_) (fun _ _ _ _ _ p => p.elim) (fun _ _ _ _ _ p => p.elim)
  · exact q _ _ G' H' (fin n.fr) n.st.sub .non p
  · exact q v d G' H' (fin n.fr) n.st.sub r p
theorem w_law {f : Addr} {fd : FuncData} (B : Bi mg) (F : Fun K "law" "law" s_law f fd) (C__law_alike : Cal P w K mg base 4 "_law_alike" ["_law_found", "_law_due"] (spP K 2 R__law_alike)) (C__law_costs : Cal P w K mg base 4 "_law_costs" ["_law_web", "_law_roof", "_law_heights_here", "_law_prices_here"] (spD K 4 R__law_costs)) (C__law_heights : Cal P w K mg base 2 "_law_heights" ["_law_row", "_law_many_here", "_law_roof"] (spR K 2 R__law_heights)) (C__law_is_deed : Cal P w K mg base 2 "_law_is_deed" ["_law_web", "_law_value"] (spP K 2 R__law_is_deed)) (C__law_pick : Cal P w K mg base 2 "_law_pick" ["_law_row", "_law_things"] (spR K 1 R__law_pick)) (C__law_prices : Cal P w K mg base 3 "_law_prices" ["_law_row", "_law_web"] (spR K 1 R__law_prices)) (C__law_run : Cal P w K mg base 3 "_law_run" ["_law_web", "_law_roof", "_law_heights_here", "_law_word_here"] (spP K 4 R__law_run)) (C__law_steep : Cal P w K mg base 1 "_law_steep" ["_law_web", "_law_heights_here"] (spP K 2 R__law_steep)) (C__law_table : Cal P w K mg base 3 "_law_table" ["_law_row", "_law_most", "_law_size"] (spR K 2 R__law_table)) (C__law_taken : Cal P w K mg base 1 "_law_taken" ["_law_row", "_law_many_here"] (spR K 1 R__law_taken)) (C__law_there : Cal P w K mg base 4 "_law_there" ["_law_row", "_law_web", "_law_roof", "_law_heights_here"] (spR K 3 R__law_there)) (C__law_ways : Cal P w K mg base 4 "_law_ways" ["_law_web", "_law_roof", "_law_one", "_law_other", "_law_most"] (spP K 5 R__law_ways)) (C__law_word : Cal P w K mg base 4 "_law_word" ["_law_row", "_law_web", "_law_roof", "_law_heights_here", "_law_most"] (spR K 4 R__law_word)) (C_cheapest : Cal P w K mg base 7 "cheapest" ["web", "roof", "one", "other", "prices"] (spP K 5 R_cheapest)) (C_cheapest_gentle : Cal P w K mg base 6 "cheapest_gentle" ["web", "roof", "heights", "prices"] (spP K 4 R_cheapest_gentle)) (C_dearest : Cal P w K mg base 6 "dearest" ["web", "roof", "heights", "prices"] (spP K 4 R_dearest)) (C_shows_cheap : Cal P w K mg base 7 "shows_cheap" ["web", "roof", "one", "other", "prices", "value"] (spP K 6 R_shows_cheap)) (C_within : Cal P w K mg base 6 "within" ["web", "roof", "heights", "prices", "most"] (spP K 5 R_within)) : FnOk P w K mg base CX0 8 f fd ["_law_script"] (spP K 1 R_law) := by
  refine mk_fn (k := 7) (N := ["_law_script", "_law_row", "_law_web", "_law_roof", "_law_one", "_law_prices_here", "_law_other", "_law_costs_here", "_law_far", "_law_most", "_law_words", "_law_word_here", "_law_values", "_law_turn", "_law_value", "_law_due", "_law_here", "_law_deed", "_law_up", "_law_k"]) R_law F sc_law (fun f cdv A outer s H E hr => ?_)
  obtain ⟨t0, s0, h0⟩ := lp0 B  f cdv A outer s H E hr
  obtain ⟨t1, s1, h1⟩ := lp1 B C__law_table f cdv A outer s H E hr
  obtain ⟨t2, s2, h2⟩ := lp2 B C__law_heights C__law_prices f cdv A outer s H E hr
  obtain ⟨t3, s3, h3⟩ := lp3 B C__law_costs C__law_there f cdv A outer s H E hr
  obtain ⟨t4, s4, h4⟩ := lp4 B C__law_alike C_cheapest f cdv A outer s H E hr
  obtain ⟨t5, s5, h5⟩ := lp5 B  f cdv A outer s H E hr
  obtain ⟨t6, s6, h6⟩ := lp6 B C__law_alike C_dearest f cdv A outer s H E hr
  obtain ⟨t7, s7, h7⟩ := lp7 B C__law_alike C__law_steep C_cheapest_gentle f cdv A outer s H E hr
  obtain ⟨t8, s8, h8⟩ := lp8 B C__law_pick C__law_taken f cdv A outer s H E hr
  obtain ⟨t9, s9, h9⟩ := lp9 B C__law_alike C_within f cdv A outer s H E hr
  obtain ⟨t10, s10, h10⟩ := lp10 B C__law_ways f cdv A outer s H E hr
  obtain ⟨t11, s11, h11⟩ := lp11 B  f cdv A outer s H E hr
  obtain ⟨t12, s12, h12⟩ := lp12 B  f cdv A outer s H E hr
  obtain ⟨t13, s13, h13⟩ := lp13 B  f cdv A outer s H E hr
  obtain ⟨t14, s14, h14⟩ := lp14 B C__law_word f cdv A outer s H E hr
  obtain ⟨t15, s15, h15⟩ := lp15 B C__law_alike C__law_is_deed C__law_run C_shows_cheap f cdv A outer s H E hr
  refine ⟨_, pss_cons s0 (pss_cons s1 (pss_cons s2 (pss_cons s3 (pss_cons s4 (pss_cons s5 (pss_cons s6 (pss_cons s7 (pss_cons s8 (pss_cons s9 (pss_cons s10 (pss_cons s11 (pss_cons s12 (pss_cons s13 (pss_cons s14 (pss_cons s15 (pss_one (ps_ret pe_bl))))))))))))))))), fun ds Pw hl hR => ?_⟩
  obtain ⟨ns, rfl, hp⟩ := hR
  refine es_piece (h0 ns) ?_
  rintro ρ0 ⟨a, row, rfl, ok⟩
  refine es_piece (h1 ns a row ok) ?_
  rintro ρ0 ⟨n, r, E0, row, rfl, W, r1, r5, few, ok⟩
  refine es_piece (h2 ns a row n r E0 ok W r5) ?_
  rintro ρ0 ⟨one, p, row, rfl, I1, IP, ok⟩
  have T : Tab n r E0 := ⟨W, r1, by omega⟩
  refine es_piece (h3 ns a row n r E0 one p ok T few I1 IP) ?_
  rintro ρ0 ⟨other, m, l, row, rfl, I2, F, ok⟩
  have C : Lc n r E0 one other p m := ⟨T, r5, few, I1, I2, IP, F⟩
  refine es_piece (h4 ns a l row n r E0 one other p m C) ?_
  rintro ρ0 rfl
  refine es_piece (h5 ns a l row n r E0 one other p m C) ?_
  rintro ρ0 ⟨far, rfl, hdear⟩
  refine es_piece (h6 ns a l row n r E0 one other p m far C hdear) ?_
  rintro ρ0 rfl
  refine es_piece (h7 ns a l row n r E0 one other p m far C) ?_
  rintro ρ0 rfl
  refine es_piece (h8 ns a l row n r E0 one other p m far C hdear ok) ?_
  rintro ρ0 ⟨row, most, rfl, ok, m0, m1⟩
  refine es_piece (h9 ns a l row n r E0 one other p m far most C m0 m1) ?_
  rintro ρ0 rfl
  refine es_piece (h10 ns a l row n r E0 one other p m far most C) ?_
  rintro ρ0 ⟨wsd, rfl, hws⟩
  refine es_piece (h11 ns a l row n r E0 one other p m far most wsd hws) ?_
  rintro ρ0 ⟨wo, rfl, hwo⟩
  refine es_piece (h12 ns a l row n r E0 one other p m far most wsd wo) ?_
  rintro ρ0 rfl
  refine es_piece (h13 ns a l row n r E0 one other p m far most wsd wo hwo) ?_
  rintro ρ0 ⟨l2, vs, rfl, hv, hvl⟩
  refine es_piece (h14 ns a l row n r E0 one other p m far most wsd wo l2 vs T I1 ok hv hvl) ?_
  rintro ρ0 ⟨row, vs, x13, rfl, hv⟩
  refine es_piece (h15 ns a l row n r E0 one other p m far most wsd wo l2 vs x13 C hv) ?_
  intro ρ0 _
  exact es_ret <| ev_bl hp
end
end Lv
/-! Ld14: every def keeps its promise, as the module's names stand. -/
namespace Lv
open PySem PySem.Spec PyProof.Rows L2 Lw
section
variable {P : Program} {w : World} {K : PySem.W.Frag} {mg : Str → Option Value} {base : Heap}
structure Ds (K : PySem.W.Frag) (mg : Str → Option Value) : Prop where
  _law_alike : DefG K mg "_law_alike" s__law_alike
  _law_beside : DefG K mg "_law_beside" s__law_beside
  _law_deeds : DefG K mg "_law_deeds" s__law_deeds
  _law_step : DefG K mg "_law_step" s__law_step
  _law_after : DefG K mg "_law_after" s__law_after
  _law_costs : DefG K mg "_law_costs" s__law_costs
  _law_taken : DefG K mg "_law_taken" s__law_taken
  _law_heights : DefG K mg "_law_heights" s__law_heights
  _law_is_vector : DefG K mg "_law_is_vector" s__law_is_vector
  _law_is_deed : DefG K mg "_law_is_deed" s__law_is_deed
  _law_pick : DefG K mg "_law_pick" s__law_pick
  _law_prices : DefG K mg "_law_prices" s__law_prices
  _law_run : DefG K mg "_law_run" s__law_run
  _law_steep : DefG K mg "_law_steep" s__law_steep
  _law_many : DefG K mg "_law_many" s__law_many
  _law_table : DefG K mg "_law_table" s__law_table
  _law_there : DefG K mg "_law_there" s__law_there
  _law_off : DefG K mg "_law_off" s__law_off
  _law_ways : DefG K mg "_law_ways" s__law_ways
  _law_word : DefG K mg "_law_word" s__law_word
  steep_in : DefG K mg "steep_in" s_steep_in
  comes_in : DefG K mg "comes_in" s_comes_in
  cost_in : DefG K mg "cost_in" s_cost_in
  is_in : DefG K mg "is_in" s_is_in
  need_prices : DefG K mg "need_prices" s_need_prices
  need_heights : DefG K mg "need_heights" s_need_heights
  need_roof : DefG K mg "need_roof" s_need_roof
  is_edge : DefG K mg "is_edge" s_is_edge
  need_web : DefG K mg "need_web" s_need_web
  need_table : DefG K mg "need_table" s_need_table
  need_one : DefG K mg "need_one" s_need_one
  need_two : DefG K mg "need_two" s_need_two
  cheapest : DefG K mg "cheapest" s_cheapest
  all_heights : DefG K mg "all_heights" s_all_heights
  come_in : DefG K mg "come_in" s_come_in
  power : DefG K mg "power" s_power
  need_listed : DefG K mg "need_listed" s_need_listed
  cheapest_gentle : DefG K mg "cheapest_gentle" s_cheapest_gentle
  dearest : DefG K mg "dearest" s_dearest
  is_deed : DefG K mg "is_deed" s_is_deed
  is_deeds : DefG K mg "is_deeds" s_is_deeds
  changed : DefG K mg "changed" s_changed
  beside_in : DefG K mg "beside_in" s_beside_in
  lower_in : DefG K mg "lower_in" s_lower_in
  raise_in : DefG K mg "raise_in" s_raise_in
  doable : DefG K mg "doable" s_doable
  line_in : DefG K mg "line_in" s_line_in
  shows_cheap : DefG K mg "shows_cheap" s_shows_cheap
  within : DefG K mg "within" s_within
theorem law_ok {f : Addr} {fd : FuncData} (B : Bi mg) (D : Ds K mg) (F : Fun K "law" "law" s_law f fd) : FnOk P w K mg base CX0 8 f fd ["_law_script"] (spP K 1 R_law) := by
  have C__law_alike : Cal P w K mg base 4 "_law_alike" ["_law_found", "_law_due"] (spP K 2 R__law_alike) := w__law_alike B D._law_alike 
  have C__law_beside : Cal P w K mg base 1 "_law_beside" ["_law_web", "_law_place"] (spP K 2 R__law_beside) := w__law_beside B D._law_beside 
  have C__law_deeds : Cal P w K mg base 2 "_law_deeds" ["_law_web", "_law_roof", "_law_heights_here"] (spP K 3 R__law_deeds) := w__law_deeds B D._law_deeds C__law_beside
  have C__law_step : Cal P w K mg base 1 "_law_step" ["_law_heights_here", "_law_deed"] (spP K 2 R__law_step) := w__law_step B D._law_step 
  have C__law_after : Cal P w K mg base 3 "_law_after" ["_law_web", "_law_roof", "_law_heights_here"] (spP K 3 R__law_after) := w__law_after B D._law_after C__law_deeds C__law_step
  have C__law_costs : Cal P w K mg base 4 "_law_costs" ["_law_web", "_law_roof", "_law_heights_here", "_law_prices_here"] (spD K 4 R__law_costs) := w__law_costs B D._law_costs C__law_after
  have C__law_taken : Cal P w K mg base 1 "_law_taken" ["_law_row", "_law_many_here"] (spR K 1 R__law_taken) := w__law_taken B D._law_taken 
  have C__law_heights : Cal P w K mg base 2 "_law_heights" ["_law_row", "_law_many_here", "_law_roof"] (spR K 2 R__law_heights) := w__law_heights B D._law_heights C__law_taken
  have C__law_is_vector : Cal P w K mg base 1 "_law_is_vector" ["_law_value", "_law_size"] (spP K 2 R__law_is_vector) := w__law_is_vector B D._law_is_vector 
  have C__law_is_deed : Cal P w K mg base 2 "_law_is_deed" ["_law_web", "_law_value"] (spP K 2 R__law_is_deed) := w__law_is_deed B D._law_is_deed C__law_is_vector
  have C__law_pick : Cal P w K mg base 2 "_law_pick" ["_law_row", "_law_things"] (spR K 1 R__law_pick) := w__law_pick B D._law_pick C__law_taken
  have C__law_prices : Cal P w K mg base 3 "_law_prices" ["_law_row", "_law_web"] (spR K 1 R__law_prices) := w__law_prices B D._law_prices C__law_pick C__law_taken
  have C__law_run : Cal P w K mg base 3 "_law_run" ["_law_web", "_law_roof", "_law_heights_here", "_law_word_here"] (spP K 4 R__law_run) := w__law_run B D._law_run C__law_deeds C__law_step
  have C__law_steep : Cal P w K mg base 1 "_law_steep" ["_law_web", "_law_heights_here"] (spP K 2 R__law_steep) := w__law_steep B D._law_steep 
  have C__law_many : Cal P w K mg base 1 "_law_many" ["_law_roof", "_law_many_here"] (spP K 2 R__law_many) := w__law_many B D._law_many 
  have C__law_table : Cal P w K mg base 3 "_law_table" ["_law_row", "_law_most", "_law_size"] (spR K 2 R__law_table) := w__law_table B D._law_table C__law_many C__law_pick C__law_taken
  have C__law_there : Cal P w K mg base 4 "_law_there" ["_law_row", "_law_web", "_law_roof", "_law_heights_here"] (spR K 3 R__law_there) := w__law_there B D._law_there C__law_after C__law_heights C__law_pick C__law_taken
  have C__law_off : Cal P w K mg base 1 "_law_off" ["_law_one", "_law_other"] (spP K 2 R__law_off) := w__law_off B D._law_off 
  have C__law_ways : Cal P w K mg base 4 "_law_ways" ["_law_web", "_law_roof", "_law_one", "_law_other", "_law_most"] (spP K 5 R__law_ways) := w__law_ways B D._law_ways C__law_after C__law_off
  have C__law_word : Cal P w K mg base 4 "_law_word" ["_law_row", "_law_web", "_law_roof", "_law_heights_here", "_law_most"] (spR K 4 R__law_word) := w__law_word B D._law_word C__law_after C__law_pick C__law_taken
  have C_steep_in : Cal P w K mg base 1 "steep_in" ["web", "heights"] (spP K 2 R_steep_in) := w_steep_in B D.steep_in 
  have C_comes_in : Cal P w K mg base 2 "comes_in" ["web", "one", "other"] (spP K 3 R_comes_in) := w_comes_in B D.comes_in C_steep_in
  have C_cost_in : Cal P w K mg base 1 "cost_in" ["one", "other", "prices"] (spP K 3 R_cost_in) := w_cost_in B D.cost_in 
  have C_is_in : Cal P w K mg base 1 "is_in" ["value", "least", "most"] (spP K 3 R_is_in) := w_is_in B D.is_in 
  have C_need_prices : Cal P w K mg base 2 "need_prices" ["web", "prices"] (spP K 2 R_need_prices) := w_need_prices B D.need_prices C_is_in
  have C_need_heights : Cal P w K mg base 2 "need_heights" ["many", "roof", "heights"] (spP K 3 R_need_heights) := w_need_heights B D.need_heights C_is_in
  have C_need_roof : Cal P w K mg base 2 "need_roof" ["roof"] (spP K 1 R_need_roof) := w_need_roof B D.need_roof C_is_in
  have C_is_edge : Cal P w K mg base 2 "is_edge" ["value", "many"] (spP K 2 R_is_edge) := w_is_edge B D.is_edge C_is_in
  have C_need_web : Cal P w K mg base 3 "need_web" ["web"] (spP K 1 R_need_web) := w_need_web B D.need_web C_is_edge C_is_in
  have C_need_table : Cal P w K mg base 4 "need_table" ["web", "roof"] (spP K 2 R_need_table) := w_need_table B D.need_table C_need_roof C_need_web
  have C_need_one : Cal P w K mg base 5 "need_one" ["web", "roof", "heights"] (spP K 3 R_need_one) := w_need_one B D.need_one C_need_heights C_need_table
  have C_need_two : Cal P w K mg base 6 "need_two" ["web", "roof", "one", "other"] (spP K 4 R_need_two) := w_need_two B D.need_two C_need_heights C_need_one
  have C_cheapest : Cal P w K mg base 7 "cheapest" ["web", "roof", "one", "other", "prices"] (spP K 5 R_cheapest) := w_cheapest B D.cheapest C_comes_in C_cost_in C_need_prices C_need_two
  have C_all_heights : Cal P w K mg base 1 "all_heights" ["many", "roof"] (spP K 2 R_all_heights) := w_all_heights B D.all_heights 
  have C_come_in : Cal P w K mg base 3 "come_in" ["web", "roof", "heights"] (spP K 3 R_come_in) := w_come_in B D.come_in C_all_heights C_comes_in
  have C_power : Cal P w K mg base 1 "power" ["base", "times"] (spP K 2 R_power) := w_power B D.power 
  have C_need_listed : Cal P w K mg base 2 "need_listed" ["web", "roof"] (spP K 2 R_need_listed) := w_need_listed B D.need_listed C_power
  have C_cheapest_gentle : Cal P w K mg base 6 "cheapest_gentle" ["web", "roof", "heights", "prices"] (spP K 4 R_cheapest_gentle) := w_cheapest_gentle B D.cheapest_gentle C_come_in C_cost_in C_need_listed C_need_one C_need_prices
  have C_dearest : Cal P w K mg base 6 "dearest" ["web", "roof", "heights", "prices"] (spP K 4 R_dearest) := w_dearest B D.dearest C_come_in C_cost_in C_need_listed C_need_one C_need_prices
  have C_is_deed : Cal P w K mg base 2 "is_deed" ["web", "value"] (spP K 2 R_is_deed) := w_is_deed B D.is_deed C_is_in
  have C_is_deeds : Cal P w K mg base 3 "is_deeds" ["web", "value"] (spP K 2 R_is_deeds) := w_is_deeds B D.is_deeds C_is_deed
  have C_changed : Cal P w K mg base 1 "changed" ["heights", "deed"] (spP K 2 R_changed) := w_changed B D.changed 
  have C_beside_in : Cal P w K mg base 1 "beside_in" ["web", "place"] (spP K 2 R_beside_in) := w_beside_in B D.beside_in 
  have C_lower_in : Cal P w K mg base 2 "lower_in" ["web", "heights"] (spP K 2 R_lower_in) := w_lower_in B D.lower_in C_beside_in
  have C_raise_in : Cal P w K mg base 2 "raise_in" ["web", "roof", "heights"] (spP K 3 R_raise_in) := w_raise_in B D.raise_in C_beside_in
  have C_doable : Cal P w K mg base 3 "doable" ["web", "roof", "heights"] (spP K 3 R_doable) := w_doable B D.doable C_lower_in C_raise_in
  have C_line_in : Cal P w K mg base 4 "line_in" ["web", "roof", "heights", "word"] (spP K 4 R_line_in) := w_line_in B D.line_in C_changed C_doable
  have C_shows_cheap : Cal P w K mg base 7 "shows_cheap" ["web", "roof", "one", "other", "prices", "value"] (spP K 6 R_shows_cheap) := w_shows_cheap B D.shows_cheap C_comes_in C_cost_in C_is_deeds C_line_in C_need_prices C_need_two
  have C_within : Cal P w K mg base 6 "within" ["web", "roof", "heights", "prices", "most"] (spP K 5 R_within) := w_within B D.within C_come_in C_cost_in C_is_in C_need_listed C_need_one C_need_prices
  exact w_law B F C__law_alike C__law_costs C__law_heights C__law_is_deed C__law_pick C__law_prices C__law_run C__law_steep C__law_table C__law_taken C__law_there C__law_ways C__law_word C_cheapest C_cheapest_gentle C_dearest C_shows_cheap C_within
theorem defG_mk {h : Heap} {x : Str} {st : Stmt} {f : Addr} {oc : Value} {od an : Option Addr} {osl : Array (Option Value)} {kV doc pm cdv ct : Value} (X : K.In h) (G : h.Ns mainGlobals mg) (a : PySem.W.nsIn K mainGlobals x = some (some (.ref f)))
    (l : K.lookup f = some ⟨oc, od, .func (PySem.W.fnOf x x (defArgs st) (defBody st) (defScope st) .none kV doc pm an cdv ct), osl⟩) (c : PySem.W.codeIn K cdv x = true) (k : PySem.W.keepIn K (.ref f) = true) : DefG K mg x st :=
  ⟨f, _, fun_mk l c k, PySem.W.mg_of X G a⟩
theorem law_end {l : PySem.W.OpenLaw} {h : Heap} {fa f0 : Addr} {oc : Value} {od an : Option Addr} {osl : Array (Option Value)} {kV doc pm cdv ct : Value} (X : K.In h) (G : h.Ns mainGlobals mg) (hfa : mg "law" = some (.ref fa)) (B : Bi mg) (D : Ds K mg)
    (a : PySem.W.nsIn K mainGlobals "law" = some (some (.ref f0)))
    (lk : K.lookup f0 = some ⟨oc, od, .func (PySem.W.fnOf "law" "law" (defArgs s_law) (defBody s_law) (defScope s_law) .none kV doc pm an cdv ct), osl⟩) (c : PySem.W.codeIn K cdv "law" = true) (k : PySem.W.keepIn K (.ref f0) = true) :
    ∃ fd : FuncData, (∀ (s : Shared) (v : Value), BindsTo s fd ⟨[v], []⟩ [("_law_script", v)]) ∧ ∀ base : Heap, K.In base → base.Ns mainGlobals mg → FnOk l.prog w K mg base CX0 8 fa fd ["_law_script"] (spP K 1 R_law) := by
  have e := hfa.symm.trans (PySem.W.mg_of X G a)
  cases e
  exact ⟨PySem.W.fnOf "law" "law" (defArgs s_law) (defBody s_law) (defScope s_law) .none kV doc pm an cdv ct, fun s v => .of_eq rfl, fun base _ _ => law_ok B D (fun_mk lk c k)⟩
theorem law_start (w : World) (H : Hp) (a : Addr) (ns : List Int) (hS : SqL K H a (ns.map V.int)) : spP K 1 R_law [.ref a] H (fun v _ => v = .bl true) fun _ _ _ => False :=
  ⟨rfl, H, [scrD ns], Same.refl _, .cons (.scr hS) .nil, fun d => d = .bool true, ⟨ns, rfl, rfl⟩, fun v d G' H' _ _ r e => by subst e; cases r; rfl⟩
theorem bi_mk {h : Heap} {t_MOST_PLACES t_MOST_ROOF t_MOST_LISTED t_MOST_WORD t_HIGH t_MOST_PRICE : Tok} (X : K.In h) (G : h.Ns mainGlobals mg)
    (b_len : PySem.W.nsIn K mainGlobals "len" = some none)
    (b_range : PySem.W.nsIn K mainGlobals "range" = some none)
    (b_max : PySem.W.nsIn K mainGlobals "max" = some none)
    (b_min : PySem.W.nsIn K mainGlobals "min" = some none)
    (b_int : PySem.W.nsIn K mainGlobals "int" = some none)
    (b_isinstance : PySem.W.nsIn K mainGlobals "isinstance" = some none)
    (b_bool : PySem.W.nsIn K mainGlobals "bool" = some none)
    (b_tuple : PySem.W.nsIn K mainGlobals "tuple" = some none)
    (b_list : PySem.W.nsIn K mainGlobals "list" = some none)
    (b_sorted : PySem.W.nsIn K mainGlobals "sorted" = some none)
    (b_set : PySem.W.nsIn K mainGlobals "set" = some none)
    (b_sum : PySem.W.nsIn K mainGlobals "sum" = some none)
    (b_abs : PySem.W.nsIn K mainGlobals "abs" = some none)
    (b_enumerate : PySem.W.nsIn K mainGlobals "enumerate" = some none)
    (b_str : PySem.W.nsIn K mainGlobals "str" = some none)
    (b_MOST_PLACES : PySem.W.nsIn K mainGlobals "MOST_PLACES" = some (some (.int 9 t_MOST_PLACES)))
    (b_MOST_ROOF : PySem.W.nsIn K mainGlobals "MOST_ROOF" = some (some (.int 9 t_MOST_ROOF)))
    (b_MOST_LISTED : PySem.W.nsIn K mainGlobals "MOST_LISTED" = some (some (.int 3000 t_MOST_LISTED)))
    (b_MOST_WORD : PySem.W.nsIn K mainGlobals "MOST_WORD" = some (some (.int 200 t_MOST_WORD)))
    (b_HIGH : PySem.W.nsIn K mainGlobals "HIGH" = some (some (.int 2 t_HIGH)))
    (b_MOST_PRICE : PySem.W.nsIn K mainGlobals "MOST_PRICE" = some (some (.int 1000 t_MOST_PRICE)))
    : Bi mg :=
  ⟨PySem.W.mg_none_of X G b_len, PySem.W.mg_none_of X G b_range, PySem.W.mg_none_of X G b_max, PySem.W.mg_none_of X G b_min, PySem.W.mg_none_of X G b_int, PySem.W.mg_none_of X G b_isinstance, PySem.W.mg_none_of X G b_bool, PySem.W.mg_none_of X G b_tuple, PySem.W.mg_none_of X G b_list, PySem.W.mg_none_of X G b_sorted, PySem.W.mg_none_of X G b_set, PySem.W.mg_none_of X G b_sum, PySem.W.mg_none_of X G b_abs, PySem.W.mg_none_of X G b_enumerate, PySem.W.mg_none_of X G b_str, ⟨_, PySem.W.mg_of X G b_MOST_PLACES⟩, ⟨_, PySem.W.mg_of X G b_MOST_ROOF⟩, ⟨_, PySem.W.mg_of X G b_MOST_LISTED⟩, ⟨_, PySem.W.mg_of X G b_MOST_WORD⟩, ⟨_, PySem.W.mg_of X G b_HIGH⟩, ⟨_, PySem.W.mg_of X G b_MOST_PRICE⟩⟩
end
end Lv
/-! Ld15: the law's own head. -/
open PySem PySem.W PyProof.Rows
set_option maxHeartbeats 0 in
theorem PySem.Challenge.cw_levellers_k42_whole_prices_holds : PySem.Challenge.rw_levellers_k42_whole_prices.Holds := by
  w_on; o_law; k_head; (case hw => w_witness2)
  k_fill
  refine L2.walk_of (l := PySem.Challenge.rw_levellers_k42_whole_prices) (n := 63) (k := 8) (x := "_law_script") (CX := fun _ => L2.CX0) (sp := fun w => Lv.spP _ 1 Lv.R_law) rfl (by decide) rfl ⟨rfl, by decide, by decide⟩ (fun w h Y => PySem.W.kIn_of Y) ?F (fun w H a ns hl _ hS => Lv.law_start w H a ns hS) (fun _ _ _ _ _ h => h)
  case F =>
    intro w mg fa h KX G hmg
    refine' Lv.law_end KX G hmg (Lv.bi_mk KX G ?b_len ?b_range ?b_max ?b_min ?b_int ?b_isinstance ?b_bool ?b_tuple ?b_list ?b_sorted ?b_set ?b_sum ?b_abs ?b_enumerate ?b_str ?b_MOST_PLACES ?b_MOST_ROOF ?b_MOST_LISTED ?b_MOST_WORD ?b_HIGH ?b_MOST_PRICE) ⟨Lv.defG_mk KX G ?a__law_alike ?l__law_alike ?c__law_alike ?k__law_alike, Lv.defG_mk KX G ?a__law_beside ?l__law_beside ?c__law_beside ?k__law_beside, Lv.defG_mk KX G ?a__law_deeds ?l__law_deeds ?c__law_deeds ?k__law_deeds, Lv.defG_mk KX G ?a__law_step ?l__law_step ?c__law_step ?k__law_step, Lv.defG_mk KX G ?a__law_after ?l__law_after ?c__law_after ?k__law_after, Lv.defG_mk KX G ?a__law_costs ?l__law_costs ?c__law_costs ?k__law_costs, Lv.defG_mk KX G ?a__law_taken ?l__law_taken ?c__law_taken ?k__law_taken, Lv.defG_mk KX G ?a__law_heights ?l__law_heights ?c__law_heights ?k__law_heights, Lv.defG_mk KX G ?a__law_is_vector ?l__law_is_vector ?c__law_is_vector ?k__law_is_vector, Lv.defG_mk KX G ?a__law_is_deed ?l__law_is_deed ?c__law_is_deed ?k__law_is_deed, Lv.defG_mk KX G ?a__law_pick ?l__law_pick ?c__law_pick ?k__law_pick, Lv.defG_mk KX G ?a__law_prices ?l__law_prices ?c__law_prices ?k__law_prices, Lv.defG_mk KX G ?a__law_run ?l__law_run ?c__law_run ?k__law_run, Lv.defG_mk KX G ?a__law_steep ?l__law_steep ?c__law_steep ?k__law_steep, Lv.defG_mk KX G ?a__law_many ?l__law_many ?c__law_many ?k__law_many, Lv.defG_mk KX G ?a__law_table ?l__law_table ?c__law_table ?k__law_table, Lv.defG_mk KX G ?a__law_there ?l__law_there ?c__law_there ?k__law_there, Lv.defG_mk KX G ?a__law_off ?l__law_off ?c__law_off ?k__law_off, Lv.defG_mk KX G ?a__law_ways ?l__law_ways ?c__law_ways ?k__law_ways, Lv.defG_mk KX G ?a__law_word ?l__law_word ?c__law_word ?k__law_word, Lv.defG_mk KX G ?a_steep_in ?l_steep_in ?c_steep_in ?k_steep_in, Lv.defG_mk KX G ?a_comes_in ?l_comes_in ?c_comes_in ?k_comes_in, Lv.defG_mk KX G ?a_cost_in ?l_cost_in ?c_cost_in ?k_cost_in, Lv.defG_mk KX G ?a_is_in ?l_is_in ?c_is_in ?k_is_in, Lv.defG_mk KX G ?a_need_prices ?l_need_prices ?c_need_prices ?k_need_prices, Lv.defG_mk KX G ?a_need_heights ?l_need_heights ?c_need_heights ?k_need_heights, Lv.defG_mk KX G ?a_need_roof ?l_need_roof ?c_need_roof ?k_need_roof, Lv.defG_mk KX G ?a_is_edge ?l_is_edge ?c_is_edge ?k_is_edge, Lv.defG_mk KX G ?a_need_web ?l_need_web ?c_need_web ?k_need_web, Lv.defG_mk KX G ?a_need_table ?l_need_table ?c_need_table ?k_need_table, Lv.defG_mk KX G ?a_need_one ?l_need_one ?c_need_one ?k_need_one, Lv.defG_mk KX G ?a_need_two ?l_need_two ?c_need_two ?k_need_two, Lv.defG_mk KX G ?a_cheapest ?l_cheapest ?c_cheapest ?k_cheapest, Lv.defG_mk KX G ?a_all_heights ?l_all_heights ?c_all_heights ?k_all_heights, Lv.defG_mk KX G ?a_come_in ?l_come_in ?c_come_in ?k_come_in, Lv.defG_mk KX G ?a_power ?l_power ?c_power ?k_power, Lv.defG_mk KX G ?a_need_listed ?l_need_listed ?c_need_listed ?k_need_listed, Lv.defG_mk KX G ?a_cheapest_gentle ?l_cheapest_gentle ?c_cheapest_gentle ?k_cheapest_gentle, Lv.defG_mk KX G ?a_dearest ?l_dearest ?c_dearest ?k_dearest, Lv.defG_mk KX G ?a_is_deed ?l_is_deed ?c_is_deed ?k_is_deed, Lv.defG_mk KX G ?a_is_deeds ?l_is_deeds ?c_is_deeds ?k_is_deeds, Lv.defG_mk KX G ?a_changed ?l_changed ?c_changed ?k_changed, Lv.defG_mk KX G ?a_beside_in ?l_beside_in ?c_beside_in ?k_beside_in, Lv.defG_mk KX G ?a_lower_in ?l_lower_in ?c_lower_in ?k_lower_in, Lv.defG_mk KX G ?a_raise_in ?l_raise_in ?c_raise_in ?k_raise_in, Lv.defG_mk KX G ?a_doable ?l_doable ?c_doable ?k_doable, Lv.defG_mk KX G ?a_line_in ?l_line_in ?c_line_in ?k_line_in, Lv.defG_mk KX G ?a_shows_cheap ?l_shows_cheap ?c_shows_cheap ?k_shows_cheap, Lv.defG_mk KX G ?a_within ?l_within ?c_within ?k_within⟩ ?a_law ?l_law ?c_law ?k_law
    (case b_len => k_is)
    (case b_range => k_is)
    (case b_max => k_is)
    (case b_min => k_is)
    (case b_int => k_is)
    (case b_isinstance => k_is)
    (case b_bool => k_is)
    (case b_tuple => k_is)
    (case b_list => k_is)
    (case b_sorted => k_is)
    (case b_set => k_is)
    (case b_sum => k_is)
    (case b_abs => k_is)
    (case b_enumerate => k_is)
    (case b_str => k_is)
    (case b_MOST_PLACES => k_is)
    (case b_MOST_ROOF => k_is)
    (case b_MOST_LISTED => k_is)
    (case b_MOST_WORD => k_is)
    (case b_HIGH => k_is)
    (case b_MOST_PRICE => k_is)
    (case a__law_alike => k_is); (case l__law_alike => k_is); (case c__law_alike => k_is); (case k__law_alike => k_is)
    (case a__law_beside => k_is); (case l__law_beside => k_is); (case c__law_beside => k_is); (case k__law_beside => k_is)
    (case a__law_deeds => k_is); (case l__law_deeds => k_is); (case c__law_deeds => k_is); (case k__law_deeds => k_is)
    (case a__law_step => k_is); (case l__law_step => k_is); (case c__law_step => k_is); (case k__law_step => k_is)
    (case a__law_after => k_is); (case l__law_after => k_is); (case c__law_after => k_is); (case k__law_after => k_is)
    (case a__law_costs => k_is); (case l__law_costs => k_is); (case c__law_costs => k_is); (case k__law_costs => k_is)
    (case a__law_taken => k_is); (case l__law_taken => k_is); (case c__law_taken => k_is); (case k__law_taken => k_is)
    (case a__law_heights => k_is); (case l__law_heights => k_is); (case c__law_heights => k_is); (case k__law_heights => k_is)
    (case a__law_is_vector => k_is); (case l__law_is_vector => k_is); (case c__law_is_vector => k_is); (case k__law_is_vector => k_is)
    (case a__law_is_deed => k_is); (case l__law_is_deed => k_is); (case c__law_is_deed => k_is); (case k__law_is_deed => k_is)
    (case a__law_pick => k_is); (case l__law_pick => k_is); (case c__law_pick => k_is); (case k__law_pick => k_is)
    (case a__law_prices => k_is); (case l__law_prices => k_is); (case c__law_prices => k_is); (case k__law_prices => k_is)
    (case a__law_run => k_is); (case l__law_run => k_is); (case c__law_run => k_is); (case k__law_run => k_is)
    (case a__law_steep => k_is); (case l__law_steep => k_is); (case c__law_steep => k_is); (case k__law_steep => k_is)
    (case a__law_many => k_is); (case l__law_many => k_is); (case c__law_many => k_is); (case k__law_many => k_is)
    (case a__law_table => k_is); (case l__law_table => k_is); (case c__law_table => k_is); (case k__law_table => k_is)
    (case a__law_there => k_is); (case l__law_there => k_is); (case c__law_there => k_is); (case k__law_there => k_is)
    (case a__law_off => k_is); (case l__law_off => k_is); (case c__law_off => k_is); (case k__law_off => k_is)
    (case a__law_ways => k_is); (case l__law_ways => k_is); (case c__law_ways => k_is); (case k__law_ways => k_is)
    (case a__law_word => k_is); (case l__law_word => k_is); (case c__law_word => k_is); (case k__law_word => k_is)
    (case a_steep_in => k_is); (case l_steep_in => k_is); (case c_steep_in => k_is); (case k_steep_in => k_is)
    (case a_comes_in => k_is); (case l_comes_in => k_is); (case c_comes_in => k_is); (case k_comes_in => k_is)
    (case a_cost_in => k_is); (case l_cost_in => k_is); (case c_cost_in => k_is); (case k_cost_in => k_is)
    (case a_is_in => k_is); (case l_is_in => k_is); (case c_is_in => k_is); (case k_is_in => k_is)
    (case a_need_prices => k_is); (case l_need_prices => k_is); (case c_need_prices => k_is); (case k_need_prices => k_is)
    (case a_need_heights => k_is); (case l_need_heights => k_is); (case c_need_heights => k_is); (case k_need_heights => k_is)
    (case a_need_roof => k_is); (case l_need_roof => k_is); (case c_need_roof => k_is); (case k_need_roof => k_is)
    (case a_is_edge => k_is); (case l_is_edge => k_is); (case c_is_edge => k_is); (case k_is_edge => k_is)
    (case a_need_web => k_is); (case l_need_web => k_is); (case c_need_web => k_is); (case k_need_web => k_is)
    (case a_need_table => k_is); (case l_need_table => k_is); (case c_need_table => k_is); (case k_need_table => k_is)
    (case a_need_one => k_is); (case l_need_one => k_is); (case c_need_one => k_is); (case k_need_one => k_is)
    (case a_need_two => k_is); (case l_need_two => k_is); (case c_need_two => k_is); (case k_need_two => k_is)
    (case a_cheapest => k_is); (case l_cheapest => k_is); (case c_cheapest => k_is); (case k_cheapest => k_is)
    (case a_all_heights => k_is); (case l_all_heights => k_is); (case c_all_heights => k_is); (case k_all_heights => k_is)
    (case a_come_in => k_is); (case l_come_in => k_is); (case c_come_in => k_is); (case k_come_in => k_is)
    (case a_power => k_is); (case l_power => k_is); (case c_power => k_is); (case k_power => k_is)
    (case a_need_listed => k_is); (case l_need_listed => k_is); (case c_need_listed => k_is); (case k_need_listed => k_is)
    (case a_cheapest_gentle => k_is); (case l_cheapest_gentle => k_is); (case c_cheapest_gentle => k_is); (case k_cheapest_gentle => k_is)
    (case a_dearest => k_is); (case l_dearest => k_is); (case c_dearest => k_is); (case k_dearest => k_is)
    (case a_is_deed => k_is); (case l_is_deed => k_is); (case c_is_deed => k_is); (case k_is_deed => k_is)
    (case a_is_deeds => k_is); (case l_is_deeds => k_is); (case c_is_deeds => k_is); (case k_is_deeds => k_is)
    (case a_changed => k_is); (case l_changed => k_is); (case c_changed => k_is); (case k_changed => k_is)
    (case a_beside_in => k_is); (case l_beside_in => k_is); (case c_beside_in => k_is); (case k_beside_in => k_is)
    (case a_lower_in => k_is); (case l_lower_in => k_is); (case c_lower_in => k_is); (case k_lower_in => k_is)
    (case a_raise_in => k_is); (case l_raise_in => k_is); (case c_raise_in => k_is); (case k_raise_in => k_is)
    (case a_doable => k_is); (case l_doable => k_is); (case c_doable => k_is); (case k_doable => k_is)
    (case a_line_in => k_is); (case l_line_in => k_is); (case c_line_in => k_is); (case k_line_in => k_is)
    (case a_shows_cheap => k_is); (case l_shows_cheap => k_is); (case c_shows_cheap => k_is); (case k_shows_cheap => k_is)
    (case a_within => k_is); (case l_within => k_is); (case c_within => k_is); (case k_within => k_is)
    (case a_law => k_is); (case l_law => k_is); (case c_law => k_is); (case k_law => k_is)
