import PyProof.Rows.All
import Wide.All
import OpenK.AllK
import Wide.FinOn
import HandS.ForMost
import HandS.Walk
import HandS.Flow
import HandS.TupAny
import HandS.TupMul
import HandS.Conv
import HandS.Deep
import HandS.TupLe
import KE.SortData
import KE.DataCmp
import KE.KTupSum
import HandS.SortKw
import HandS.IsInst
import HandS.Style
import KE.GoesNew
import KE.GoesEnum
import KE.GoesEnumKw
import KE.GoesMore
import HandS.SortInts
import HandS.Gcd
import HandS.Strs
import HandS.SetFor
import HandS.ListItems
import HandS.DictComp
import KE.DataMinMax
import HandS.More
import PyProof.Rows.SortShellAny
import KE.DataFind
import KE.KDictPairs
import HandS.SetTxt0
import HandS.DictEq
import PySem.Challenge.RW_jobwarden_k27_chains_that_stretch
set_option Elab.async false
set_option linter.all false
set_option maxRecDepth 100000
namespace Mi
open PySem PySem.Spec L2

abbrev D := PyData
/-- the written part of the heap, with the program and the world: hashes of tuples ask for both -/
structure Fg where
  K : PySem.W.Frag
  P : Program
  w : World
instance : Coe Fg PySem.W.Frag := ⟨Fg.K⟩
abbrev _root_.L2.Cx.G (X : L2.Cx) : Fg := ⟨X.K, X.prog, X.w⟩
/-- what a slot holds: nothing, a value that never changes, a list or a dict of one's own, the draw -/
inductive Sl where
  | un
  | v (d : D)
  | l (xs : List D)
  | k (kvs : List (Key × D))
  | t (kvs : List (List Key × D))
  | dr
  | sc (ns : List Int)
abbrev En := List Sl
def kD : Key → D
  | .inl i => .int i
  | .inr s => .str s
def kdD (kvs : List (Key × D)) : List (D × D) := kvs.map fun p => (kD p.1, p.2)
def ktD (kvs : List (List Key × D)) : List (D × D) := kvs.map fun p => (.tuple (p.1.map kD), p.2)
/-- a dict of tuple keys, as data: with a mark ahead, so that no dict of the other kind reads alike -/
def ktM (kvs : List (List Key × D)) : List (D × D) := (.none, .none) :: ktD kvs
def Sl.own : Sl → Bool
  | .l _ => true
  | .k _ => true
  | .t _ => true
  | _ => false
def Sl.dat : Sl → Option D
  | .l xs => some (.list xs)
  | .k kvs => some (.dict (kdD kvs))
  | .t kvs => some (.dict (ktM kvs))
  | _ => none
/-- a tuple that has no dict: the object is known -/
def TuO (o : Obj) : Prop := o.cls = .type "tuple" ∧ o.dict = none
def PlT (K : Fg) (F : Hp) (a : Addr) (xs : List V) : Prop :=
  (∃ o, F a = some (.frz o (.tup xs)) ∧ TuO o) ∨ ∃ (o : Obj) (its : Array Value) (n : Nat), K.K.lookup a = some o ∧ TuO o ∧ o.data = .seq its n ∧ its.size ≤ sizeLine ∧ Vals xs its.toList
theorem PlT.sq {K : Fg} {F : Hp} {a : Addr} {xs : List V} (h : PlT K F a xs) : SqT K F a xs := by
  rcases h with ⟨o, h, _⟩ | ⟨o, its, n, h1, h2, h3, h4, h5⟩
  · exact .inl (.inr ⟨o, h⟩)
  · exact .inr ⟨o, its, n, h1, h2.1, h3, h4, h5⟩
mutual
inductive Rv (K : Fg) (F : Hp) : D → V → Prop
  | non : Rv K F .none .non
  | bl (b : Bool) : Rv K F (.bool b) (.bl b)
  | int (i : Int) : Rv K F (.int i) (.int i)
  | str (s : Str) : s.length ≤ sizeLine → Rv K F (.str s) (.str s)
  | lst {a : Addr} {xs : List D} {vs : List V} : F a = some (.lst vs) → xs.length ≤ sizeLine → Rvs K F xs vs → Rv K F (.list xs) (.ref a)
  | tup {a : Addr} {xs : List D} {vs : List V} : PlT K F a vs → xs.length ≤ sizeLine → Rvs K F xs vs → Rv K F (.tuple xs) (.ref a)
  | dic {a : Addr} {kvs : List (D × D)} {kws : List (Key × V)} : Rd F a (.dK kws) → Rks K F kvs kws → Rv K F (.dict kvs) (.ref a)
  | dit {a : Addr} {kvs : List (D × D)} {kws : List (List Key × V)} : Rd F a (.dT kws) → Rkt K F kvs kws → Rv K F (.dict ((.none, .none) :: kvs)) (.ref a)
  | dil {a : Addr} {o : Obj} {kvs : List (D × D)} {kws : List (Key × V)} : F a = some (.frz o (.dK kws)) → Rks K F kvs kws → Rv K F (.dict ((.bool true, .none) :: kvs)) (.ref a)
inductive Rvs (K : Fg) (F : Hp) : List D → List V → Prop
  | nil : Rvs K F [] []
  | cons {d : D} {ds : List D} {v : V} {vs : List V} : Rv K F d v → Rvs K F ds vs → Rvs K F (d :: ds) (v :: vs)
inductive Rks (K : Fg) (F : Hp) : List (D × D) → List (Key × V) → Prop
  | nil : Rks K F [] []
  | cons {k : Key} {d : D} {ds : List (D × D)} {v : V} {vs : List (Key × V)} : Rv K F d v → Rks K F ds vs → Rks K F ((kD k, d) :: ds) ((k, v) :: vs)
inductive Rkt (K : Fg) (F : Hp) : List (D × D) → List (List Key × V) → Prop
  | nil : Rkt K F [] []
  | cons {k : List Key} {d : D} {ds : List (D × D)} {v : V} {vs : List (List Key × V)} : Rv K F d v → Rkt K F ds vs → Rkt K F ((.tuple (k.map kD), d) :: ds) ((k, v) :: vs)
end
theorem rd_mono {F F' : Hp} {a : Addr} {u : HO} (h : Same F F') (r : Rd F a u) : Rd F' a u := by
  rcases r with r | ⟨o, r⟩
  · exact .inl (h _ _ r)
  · exact .inr ⟨o, h _ _ r⟩
theorem sqL_mono {K : Fg} {F F' : Hp} {a : Addr} {xs : List V} (h : Same F F') (r : SqL K F a xs) : SqL K F' a xs := by
  rcases r with r | r
  · exact .inl (rd_mono h r)
  · exact .inr r
theorem sqT_mono {K : Fg} {F F' : Hp} {a : Addr} {xs : List V} (h : Same F F') (r : SqT K F a xs) : SqT K F' a xs := by
  rcases r with r | r
  · exact .inl (rd_mono h r)
  · exact .inr r
theorem plT_mono {K : Fg} {F F' : Hp} {a : Addr} {xs : List V} (h : Same F F') (r : PlT K F a xs) : PlT K F' a xs := by
  rcases r with ⟨o, r, t⟩ | r
  · exact .inl ⟨o, h _ _ r, t⟩
  · exact .inr r
mutual
theorem Rv.mono {K : Fg} {F F' : Hp} (h : Same F F') : ∀ {d : D} {v : V}, Rv K F d v → Rv K F' d v
  | _, _, .non => .non
  | _, _, .bl b => .bl b
  | _, _, .int i => .int i
  | _, _, .str s z => .str s z
  | _, _, .lst q z r => .lst (h _ _ q) z (Rvs.mono h r)
  | _, _, .tup q z r => .tup (plT_mono h q) z (Rvs.mono h r)
  | _, _, .dic q r => .dic (rd_mono h q) (Rks.mono h r)
  | _, _, .dit q r => .dit (rd_mono h q) (Rkt.mono h r)
  | _, _, .dil q r => .dil (h _ _ q) (Rks.mono h r)
theorem Rvs.mono {K : Fg} {F F' : Hp} (h : Same F F') : ∀ {d : List D} {v : List V}, Rvs K F d v → Rvs K F' d v
  | _, _, .nil => .nil
  | _, _, .cons a b => .cons (Rv.mono h a) (Rvs.mono h b)
theorem Rks.mono {K : Fg} {F F' : Hp} (h : Same F F') : ∀ {d : List (D × D)} {v : List (Key × V)}, Rks K F d v → Rks K F' d v
  | _, _, .nil => .nil
  | _, _, .cons a b => .cons (Rv.mono h a) (Rks.mono h b)
theorem Rkt.mono {K : Fg} {F F' : Hp} (h : Same F F') : ∀ {d : List (D × D)} {v : List (List Key × V)}, Rkt K F d v → Rkt K F' d v
  | _, _, .nil => .nil
  | _, _, .cons a b => .cons (Rv.mono h a) (Rkt.mono h b)
end
theorem Rvs.length {K : Fg} {F : Hp} : ∀ {d : List D} {v : List V}, Rvs K F d v → d.length = v.length
  | _, _, .nil => rfl
  | _, _, .cons _ b => congrArg (· + 1) (Rvs.length b)
theorem Rvs.append {K : Fg} {F : Hp} : ∀ {d d' : List D} {v v' : List V}, Rvs K F d v → Rvs K F d' v' → Rvs K F (d ++ d') (v ++ v')
  | _, _, _, _, .nil, q => q
  | _, _, _, _, .cons a b, q => .cons a (Rvs.append b q)
theorem Rvs.get {K : Fg} {F : Hp} : ∀ {ds : List D} {vs : List V} {i : Nat} {d : D}, Rvs K F ds vs → ds[i]? = some d → ∃ v, vs[i]? = some v ∧ Rv K F d v
  | _, _, _, _, .nil, e => by simp at e
  | _, _, 0, _, .cons r _, e => by simp at e; subst e; exact ⟨_, rfl, r⟩
  | _, _, i + 1, d, .cons _ t, e => by
    obtain ⟨u, h1, h2⟩ := Rvs.get (i := i) (d := d) t (by simpa using e)
    exact ⟨u, by simpa using h1, h2⟩
theorem Rvs.get' {K : Fg} {F : Hp} {ds : List D} {vs : List V} {i : Nat} {v : V} (r : Rvs K F ds vs) (e : vs[i]? = some v) : ∃ d, ds[i]? = some d ∧ Rv K F d v := by
  have hl := r.length
  have hi : i < ds.length := by rw [hl]; exact (List.getElem?_eq_some_iff.mp e).1
  obtain ⟨v', h1, h2⟩ := r.get (i := i) (d := ds[i]) (by simp [hi])
  rw [e] at h1; cases h1
  exact ⟨_, by simp [hi], h2⟩
theorem Rvs.take {K : Fg} {F : Hp} : ∀ {ds : List D} {vs : List V} (n : Nat), Rvs K F ds vs → Rvs K F (ds.take n) (vs.take n)
  | _, _, 0, _ => by simp only [List.take_zero]; exact .nil
  | _, _, _ + 1, .nil => .nil
  | _, _, n + 1, .cons r t => .cons r (Rvs.take n t)
theorem Rvs.drop {K : Fg} {F : Hp} : ∀ {ds : List D} {vs : List V} (n : Nat), Rvs K F ds vs → Rvs K F (ds.drop n) (vs.drop n)
  | _, _, 0, r => by simpa using r
  | _, _, _ + 1, .nil => .nil
  | _, _, n + 1, .cons _ t => Rvs.drop n t
theorem Rvs.ints {K : Fg} {F : Hp} : ∀ {ns : List Int} {vs : List V}, Rvs K F (ns.map PyData.int) vs → vs = ns.map V.int
  | [], _, r => by cases r; rfl
  | n :: ns, _, r => by
    cases r with
    | cons a b => cases a; rw [Rvs.ints b]; rfl
theorem Rvs.ofInts {K : Fg} {F : Hp} : ∀ (ns : List Int), Rvs K F (ns.map PyData.int) (ns.map V.int)
  | [] => .nil
  | n :: ns => .cons (.int n) (Rvs.ofInts ns)

/-! ### the state -/
structure Cy where
  F0 : Hp
  H0 : Hp
  dr0 : Option Addr
def DrOk (F H : Hp) (a : Addr) : Prop := ∃ (l : Addr) (ns : List Int) (p c s : Int), H a = some (.lst [.ref l, .int p, .int c, .int s]) ∧ F l = some (.lst (ns.map V.int)) ∧ 0 ≤ p ∧ 0 ≤ c ∧ 0 ≤ s ∧ s < 2147483648
theorem DrOk.mono {F F' H : Hp} {a : Addr} (h : Same F F') (d : DrOk F H a) : DrOk F' H a := by
  obtain ⟨l, ns, p, c, s, h1, h2, h3⟩ := d
  exact ⟨l, ns, p, c, s, h1, h _ _ h2, h3⟩
theorem DrOk.at {F H H' : Hp} {a : Addr} (h : H' a = H a) (d : DrOk F H a) : DrOk F H' a := by
  obtain ⟨l, ns, p, c, s, h1, h2, h3⟩ := d
  exact ⟨l, ns, p, c, s, h.trans h1, h2, h3⟩
/-- the heap's part -/
structure Rf (y : Cy) (dr : Option Addr) (F H : Hp) : Prop where
  sub : Same F H
  sup : Same y.F0 F
  new : ∀ a, F a ≠ none → y.F0 a ≠ none ∨ y.H0 a = none
  gr : ∀ a o, y.H0 a = some o → some a ≠ y.dr0 → H a = some o
  dom : ∀ a, y.H0 a ≠ none → H a ≠ none
  drw : ∀ a, dr = some a → F a = none ∧ DrOk F H a
  drs : y.dr0 = none ∨ dr = y.dr0
  drn : ∀ a, dr = some a → y.dr0 = some a ∨ y.H0 a = none
/-- one slot -/
def SlOk (K : Fg) (y : Cy) (dr : Option Addr) (F H : Hp) (o : Option V) : Sl → Prop
  | .un => True
  | .v d => ∃ v, o = some v ∧ Rv K F d v
  | .l xs => ∃ a vs, o = some (.ref a) ∧ H a = some (.lst vs) ∧ xs.length ≤ sizeLine ∧ Rvs K F xs vs ∧ F a = none ∧ y.H0 a = none ∧ some a ≠ dr
  | .k kvs => ∃ a kws, o = some (.ref a) ∧ H a = some (.dK kws) ∧ Rks K F (kdD kvs) kws ∧ F a = none ∧ y.H0 a = none ∧ some a ≠ dr
  | .t kvs => ∃ a kws, o = some (.ref a) ∧ H a = some (.dT kws) ∧ Rkt K F (ktD kvs) kws ∧ F a = none ∧ y.H0 a = none ∧ some a ≠ dr
  | .dr => ∃ a, o = some (.ref a) ∧ dr = some a
  | .sc ns => ∃ a, o = some (.ref a) ∧ SqL K F a (ns.map V.int)
structure Re (K : Fg) (y : Cy) (dr : Option Addr) (F : Hp) (env : En) (σ : St) (H : Hp) : Prop where
  rf : Rf y dr F H
  len : env.length = σ.length
  slot : ∀ (i : Nat) (s : Sl) (o : Option V), env[i]? = some s → σ[i]? = some o → SlOk K y dr F H o s
  sep : ∀ (i j : Nat) (a : Addr) (s s' : Sl), env[i]? = some s → env[j]? = some s' → s.own = true → s'.own = true → σ[i]? = some (some (.ref a)) → σ[j]? = some (some (.ref a)) → i = j
theorem SlOk.there {K : Fg} {y : Cy} {dr : Option Addr} {F H : Hp} {o : Option V} {s : Sl} (h : SlOk K y dr F H o s) (w : s.own = true) : ∃ a, o = some (.ref a) ∧ H a ≠ none ∧ F a = none ∧ y.H0 a = none ∧ some a ≠ dr := by
  cases s with
  | l xs => obtain ⟨a, vs, h1, h2, _, _, h3⟩ := h; exact ⟨a, h1, by rw [h2]; simp, h3⟩
  | k xs => obtain ⟨a, vs, h1, h2, _, h3⟩ := h; exact ⟨a, h1, by rw [h2]; simp, h3⟩
  | t xs => obtain ⟨a, vs, h1, h2, _, h3⟩ := h; exact ⟨a, h1, by rw [h2]; simp, h3⟩
  | _ => cases w
/-- the slot's own object as it was, the frozen part grown -/
theorem SlOk.keep {K : Fg} {y y' : Cy} {dr : Option Addr} {F F' H H' : Hp} {o : Option V} {s : Sl} (h : SlOk K y dr F H o s) (hF : Same F F')
    (hk : ∀ a, o = some (.ref a) → s.own = true → H' a = H a ∧ F' a = none ∧ y'.H0 a = none) : SlOk K y' dr F' H' o s := by
  cases s with
  | un => trivial
  | v d => obtain ⟨v, h1, h2⟩ := h; exact ⟨v, h1, h2.mono hF⟩
  | l xs =>
    obtain ⟨a, vs, h1, h2, hz, h3, h4, h5, h6⟩ := h
    obtain ⟨k1, k2, k3⟩ := hk a h1 rfl
    exact ⟨a, vs, h1, k1.trans h2, hz, h3.mono hF, k2, k3, h6⟩
  | k xs =>
    obtain ⟨a, vs, h1, h2, h3, h4, h5, h6⟩ := h
    obtain ⟨k1, k2, k3⟩ := hk a h1 rfl
    exact ⟨a, vs, h1, k1.trans h2, h3.mono hF, k2, k3, h6⟩
  | t xs =>
    obtain ⟨a, vs, h1, h2, h3, h4, h5, h6⟩ := h
    obtain ⟨k1, k2, k3⟩ := hk a h1 rfl
    exact ⟨a, vs, h1, k1.trans h2, h3.mono hF, k2, k3, h6⟩
  | dr => exact h
  | sc ns =>
    obtain ⟨a, h1, h2⟩ := h
    exact ⟨a, h1, sqL_mono hF h2⟩
theorem Rf.trans {y : Cy} {dr dr' : Option Addr} {F F' H H' : Hp} (a : Rf y dr F H) (b : Rf ⟨F, H, dr⟩ dr' F' H') (hd : dr' = dr) : Rf y dr' F' H' := by
  subst hd
  refine ⟨b.sub, a.sup.trans b.sup, fun c hc => ?_, fun c o hc hn => ?_, fun c hc => b.dom c (a.dom c hc), b.drw, a.drs, fun c hc => a.drn c hc⟩
  · rcases b.new c hc with z | z
    · exact a.new c z
    · exact .inr (by
        cases q : y.H0 c with
        | none => rfl
        | some o => exact absurd z (a.dom c (by rw [q]; simp)))
  · refine b.gr c o (a.gr c o hc hn) fun e => ?_
    rcases a.drs with z | z
    · rcases a.drn c e.symm with z' | z'
      · rw [z] at z'; cases z'
      · rw [hc] at z'; cases z'
    · exact hn (by rw [e]; exact z)
/-- behind a call or a block: what was one's own is as it was -/
theorem Re.back {K : Fg} {y : Cy} {dr : Option Addr} {F F' H H' : Hp} {env : En} {σ : St} (a : Re K y dr F env σ H) (b : Rf ⟨F, H, dr⟩ dr F' H') : Re K y dr F' env σ H' := by
  refine ⟨a.rf.trans b rfl, a.len, fun i s o h1 h2 => (a.slot i s o h1 h2).keep b.sup fun c hc w => ?_, a.sep⟩
  obtain ⟨c', e1, e2, e3, e4, e5⟩ := (a.slot i s o h1 h2).there w
  rw [hc] at e1; cases e1
  refine ⟨?_, ?_, e4⟩
  · cases q : H c with
    | none => exact absurd q e2
    | some ob => exact b.gr c ob q e5
  · cases q : F' c with
    | none => rfl
    | some ob =>
      rcases b.new c (by rw [q]; simp) with z | z
      · exact absurd e3 z
      · exact absurd z e2
theorem Rf.refl {dr : Option Addr} {y : Cy} {F H : Hp} (a : Rf y dr F H) : Rf ⟨F, H, dr⟩ dr F H :=
  ⟨a.sub, Same.refl _, fun c hc => .inl hc, fun c o h _ => h, fun c h => h, a.drw, .inr rfl, fun c h => .inl h⟩
/-- a new object that never changes -/
theorem Rf.laid {y : Cy} {dr : Option Addr} {F H : Hp} {p : Addr} {o : HO} (a : Rf y dr F H) (hp : H p = none) : Rf y dr (upd F p o) (upd H p o) := by
  have hF : F p = none := a.sub.free hp
  have hF0 : y.F0 p = none := a.sup.free hF
  have hH0 : y.H0 p = none := by
    cases q : y.H0 p with
    | none => rfl
    | some u => exact absurd hp (a.dom p (by rw [q]; simp))
  have sF : Same F (upd F p o) := fun b u e => by rw [upd_ne (ne_of_none e hF)]; exact e
  have sH : Same H (upd H p o) := fun b u e => by rw [upd_ne (ne_of_none e hp)]; exact e
  refine ⟨fun b u e => ?_, a.sup.trans sF, fun b hb => ?_, fun b u e n => sH _ _ (a.gr b u e n), fun b hb => ?_, fun b hb => ?_, a.drs, a.drn⟩
  · by_cases hb : b = p
    · subst hb; rw [upd_same] at e ⊢; exact e
    · rw [upd_ne hb] at e ⊢; exact a.sub _ _ e
  · by_cases hbp : b = p
    · subst hbp; exact .inr hH0
    · rw [upd_ne hbp] at hb; exact a.new b hb
  · cases q : H b with
    | none => exact absurd q (a.dom b hb)
    | some u => rw [sH _ _ q]; simp
  · obtain ⟨h1, h2⟩ := a.drw b hb
    have hbp : b ≠ p := by
      rintro rfl
      obtain ⟨_, _, _, _, _, q, _⟩ := h2
      rw [hp] at q; cases q
    exact ⟨by rw [upd_ne hbp]; exact h1, (h2.mono sF).at (upd_ne hbp)⟩
theorem upd_grow {F : Hp} {p : Addr} {o : HO} (h : F p = none) : Same F (upd F p o) := fun b u e => by rw [upd_ne (ne_of_none e h)]; exact e
theorem Re.laid {K : Fg} {y : Cy} {dr : Option Addr} {F H : Hp} {env : En} {σ : St} {p : Addr} {o : HO} (a : Re K y dr F env σ H) (hp : H p = none) : Re K y dr (upd F p o) env σ (upd H p o) :=
  a.back ((a.rf.refl).laid hp)
theorem Re.nF {K : Fg} {y : Cy} {dr : Option Addr} {F H : Hp} {env : En} {σ : St} {p : Addr} (a : Re K y dr F env σ H) (hp : H p = none) : F p = none := a.rf.sub.free hp
/-- a new object that is not known to be frozen: the heap grew -/
theorem Rf.grown {y : Cy} {dr : Option Addr} {F H : Hp} {p : Addr} {o : HO} (a : Rf y dr F H) (hp : H p = none) : Rf y dr F (upd H p o) := by
  have sH : Same H (upd H p o) := upd_grow hp
  refine ⟨a.sub.trans sH, a.sup, a.new, fun b u e n => sH _ _ (a.gr b u e n), fun b hb => ?_, fun b hb => ?_, a.drs, a.drn⟩
  · cases q : H b with
    | none => exact absurd q (a.dom b hb)
    | some u => rw [sH _ _ q]; simp
  · obtain ⟨h1, h2⟩ := a.drw b hb
    have hbp : b ≠ p := by
      rintro rfl
      obtain ⟨_, _, _, _, _, q, _⟩ := h2
      rw [hp] at q; cases q
    exact ⟨h1, h2.at (upd_ne hbp)⟩
theorem Re.grown {K : Fg} {y : Cy} {dr : Option Addr} {F H : Hp} {env : En} {σ : St} {p : Addr} {o : HO} (a : Re K y dr F env σ H) (hp : H p = none) : Re K y dr F env σ (upd H p o) :=
  a.back ((a.rf.refl).grown hp)

/-! ### the judgements -/
abbrev SE := En → (D → Prop) → Prop
abbrev SB := En → (Bool → Prop) → Prop
abbrev SI := En → (List D → Prop) → Prop
abbrev SA := En → (List D → Prop) → Prop
abbrev SG := D → En → (En → Prop) → Prop
structure Ks where
  nx : En → Prop
  rt : D → Prop
  bk : En → Prop := fun _ => False
  ct : En → Prop := fun _ => False
abbrev SS := Ks → En → Prop
/-- an expression was evaluated: the frozen part grew, all that was tracked but the draw stands -/
structure Ex (dr : Option Addr) (F H F' H' : Hp) : Prop where
  f : Same F F'
  k : ∀ a o, H a = some o → some a ≠ dr → H' a = some o
theorem Ex.refl {dr : Option Addr} {F H : Hp} : Ex dr F H F H := ⟨Same.refl _, fun _ _ h _ => h⟩
theorem Ex.trans {dr : Option Addr} {F H F1 H1 F2 H2 : Hp} (a : Ex dr F H F1 H1) (b : Ex dr F1 H1 F2 H2) : Ex dr F H F2 H2 := ⟨a.f.trans b.f, fun c o h n => b.k c o (a.k c o h n) n⟩
theorem Ex.fz {dr : Option Addr} {F H : Hp} {p : Addr} {o : HO} (h : F p = none) : Ex dr F H (upd F p o) H := ⟨upd_grow h, fun _ _ h _ => h⟩
theorem Ex.grown {dr : Option Addr} {F H : Hp} {p : Addr} {o : HO} (h : H p = none) : Ex dr F H F (upd H p o) := ⟨Same.refl _, fun c u e _ => by rw [upd_ne (ne_of_none e h)]; exact e⟩
theorem Re.ex {K : Fg} {y : Cy} {dr : Option Addr} {F H : Hp} {env : En} {σ : L2.St} {p : Addr} {o : HO} (a : Re K y dr F env σ H) (hp : H p = none) : Ex dr F H (upd F p o) (upd H p o) :=
  ⟨upd_grow (a.nF hp), fun c u e _ => by rw [upd_ne (ne_of_none e hp)]; exact e⟩
/-- a value, or (b) an own object of a slot, read -/
def Vr (K : Fg) (b : Bool) (F : Hp) (env : En) (σ : St) (d : D) (v : V) : Prop :=
  Rv K F d v ∨ (b = true ∧ ∃ (i : Nat) (s : Sl), env[i]? = some s ∧ s.dat = some d ∧ σ[i]? = some (some v))
theorem Vr.mono {K : Fg} {b : Bool} {dr : Option Addr} {F F' H H' : Hp} {env : En} {σ : St} {d : D} {v : V} (h : Ex dr F H F' H') (r : Vr K b F env σ d v) : Vr K b F' env σ d v := by
  rcases r with r | r
  · exact .inl (r.mono h.f)
  · exact .inr r
theorem Vr.rv {K : Fg} {F : Hp} {env : En} {σ : St} {d : D} {v : V} (r : Vr K false F env σ d v) : Rv K F d v := by
  rcases r with r | ⟨z, _⟩
  · exact r
  · cases z
def lE (K : Fg) (b : Bool) (m : SE) : TE := fun σ H Q => ∃ y dr F env, Re K y dr F env σ H ∧ m env fun d => ∀ v H' F', Re K y dr F' env σ H' → Ex dr F H F' H' → Vr K b F' env σ d v → Q v H'
def lT (K : Fg) (m : SB) : TT := fun σ H Q => ∃ y dr F env, Re K y dr F env σ H ∧ m env fun b => ∀ H' F', Re K y dr F' env σ H' → Ex dr F H F' H' → Q b H'
def lA (K : Fg) (b : Bool) (m : SA) : TA := fun σ H Q => ∃ y dr F env, Re K y dr F env σ H ∧ m env fun ds => ∀ vs H' F', Re K y dr F' env σ H' → Ex dr F H F' H' → Paired (Vr K b F' env σ) ds vs → Q vs H'
end Mi

namespace Mi
open PySem PySem.Spec L2
structure ME (X : Cx) (b : Bool) (e : Expr) (m : SE) : Prop where
  run : PE X e (lE X.G b m)
  mono : ∀ env (P Q : D → Prop), (∀ d, P d → Q d) → m env P → m env Q
structure MT (X : Cx) (e : Expr) (m : SB) : Prop where
  run : PT X e (lT X.G m)
  mono : ∀ env (P Q : Bool → Prop), (∀ d, P d → Q d) → m env P → m env Q
structure MA (X : Cx) (b : Bool) (es : List Expr) (m : SA) : Prop where
  run : PA X es (lA X.G b m)
  mono : ∀ env (P Q : List D → Prop), (∀ d, P d → Q d) → m env P → m env Q
  len : ∀ env (P : List D → Prop), m env P → m env fun ds => ds.length = es.length ∧ P ds
section
variable {X : Cx} {b : Bool}
theorem ME.up {e : Expr} {m : SE} (h : ME X false e m) : ME X b e m := ⟨⟨fun pins s σ H Q I hq => h.run.run pins s σ H Q I (by
    obtain ⟨y, dr, F, env, re, hm⟩ := hq
    exact ⟨y, dr, F, env, re, h.mono _ _ _ (fun d k v H' F' r1 s1 v1 => k v H' F' r1 s1 (.inl v1.rv)) hm⟩)⟩, h.mono⟩
/-! ### names, constants -/
def gv (env : En) (i : Nat) : Sl := env.getD i .un
def sVar (i : Nat) : SE := fun env Q => match gv env i with
  | .v d => Q d
  | _ => False
/-- an own list or dict, read -/
def sBor (i : Nat) : SE := fun env Q => match gv env i with
  | .v d => Q d
  | .l xs => Q (.list xs)
  | .k kvs => Q (.dict (kdD kvs))
  | .t kvs => Q (.dict (ktM kvs))
  | _ => False
theorem gv_some {env : En} {i : Nat} {s : Sl} (h : gv env i = s) (hs : s ≠ .un) : env[i]? = some s := by
  unfold gv at h
  rw [List.getD_eq_getElem?_getD] at h
  cases q : env[i]? with
  | none => rw [q] at h; exact absurd h.symm hs
  | some u => rw [q] at h; simpa using h
theorem Re.get {K : Fg} {y : Cy} {dr : Option Addr} {F H : Hp} {env : En} {σ : St} {i : Nat} {s : Sl} (re : Re K y dr F env σ H) (h : env[i]? = some s) : ∃ o, σ[i]? = some o ∧ SlOk K y dr F H o s := by
  have hi : i < env.length := (List.getElem?_eq_some_iff.mp h).1
  have hj : i < σ.length := by rw [← re.len]; exact hi
  exact ⟨σ[i], by simp [hj], re.slot i s _ h (by simp [hj])⟩
theorem me_var {i : Nat} {e : Expr} (h : PE X e (tVar i)) : ME X b e (sVar i) := by
  refine ⟨⟨fun pins s σ H Q I hq => h.run pins s σ H Q I ?_⟩, fun env P Q k hp => ?_⟩
  · obtain ⟨y, dr, F, env, re, hm⟩ := hq
    unfold sVar at hm
    split at hm
    · rename_i d hd
      obtain ⟨o, e1, v, e2, r⟩ := re.get (gv_some hd (by simp))
      subst e2
      exact ⟨v, e1, hm v H F re Ex.refl (.inl r)⟩
    · exact hm.elim
  · unfold sVar at hp ⊢
    split at hp
    · exact k _ hp
    · exact hp
theorem dat_of {env : En} {i : Nat} {P : D → Prop} (h : sBor i env P) : ∃ s d, env[i]? = some s ∧ P d ∧ (s = .v d ∨ s.dat = some d) := by
  unfold sBor at h
  split at h
  · rename_i d hd
    exact ⟨_, d, gv_some hd (by simp), h, .inl rfl⟩
  · rename_i d hd
    exact ⟨_, _, gv_some hd (by simp), h, .inr rfl⟩
  · rename_i d hd
    exact ⟨_, _, gv_some hd (by simp), h, .inr rfl⟩
  · rename_i d hd
    exact ⟨_, _, gv_some hd (by simp), h, .inr rfl⟩
  · exact h.elim
theorem sBor_mono {i : Nat} (env : En) (P Q : D → Prop) (k : ∀ d, P d → Q d) (h : sBor i env P) : sBor i env Q := by
  unfold sBor at h ⊢
  split at h
  all_goals first | exact k _ h | exact h
theorem me_bor {i : Nat} {e : Expr} (h : PE X e (tVar i)) : ME X true e (sBor i) := by
  refine ⟨⟨fun pins s σ H Q I hq => h.run pins s σ H Q I ?_⟩, sBor_mono⟩
  obtain ⟨y, dr, F, env, re, hm⟩ := hq
  obtain ⟨s, d, e1, hp, hs⟩ := dat_of hm
  rcases hs with rfl | hs
  · obtain ⟨o, e1, v, e2, r⟩ := re.get e1
    subst e2
    exact ⟨v, e1, hp v H F re Ex.refl (.inl r)⟩
  · obtain ⟨o, e2, r⟩ := re.get e1
    have hw : s.own = true := by cases s <;> first | rfl | cases hs
    obtain ⟨a, ea, _⟩ := r.there hw
    subst ea
    exact ⟨.ref a, e2, hp _ H F re Ex.refl (.inr ⟨rfl, i, s, e1, hs, e2⟩)⟩
def sC (d : D) : SE := fun _ Q => Q d
theorem me_con {e : Expr} {d : D} {v : V} (h : PE X e (tC v)) (r : ∀ F, Rv X.G F d v) : ME X b e (sC d) := by
  refine ⟨⟨fun pins s σ H Q I hq => h.run pins s σ H Q I ?_⟩, fun env P Q k hp => k _ hp⟩
  obtain ⟨y, dr, F, env, re, hm⟩ := hq
  exact hm v H F re Ex.refl (.inl (r F))
theorem me_int {i : Int} {j pos} : ME X b (.Constant (.int i) j pos) (sC (.int i)) := me_con pe_int fun _ => .int i
theorem me_bl {c : Bool} {j pos} : ME X b (.Constant (.bool c) j pos) (sC (.bool c)) := me_con pe_bl fun _ => .bl c
theorem me_non {j pos} : ME X b (.Constant .none j pos) (sC .none) := me_con pe_non fun _ => .non
theorem me_str {x : Str} {j pos} (h : x.length ≤ sizeLine := by decide) : ME X b (.Constant (.str x) j pos) (sC (.str x)) := me_con pe_str fun _ => .str x h
/-! ### two operands -/
def ob (o : Option D) (Q : D → Prop) : Prop := match o with
  | some d => Q d
  | none => False
def sOp (f : D → D → Option D) (a c : SE) : SE := fun env Q => a env fun x => c env fun z => ob (f x z) Q
def Ok2 (X : Cx) (b : Bool) (f : D → D → Option D) (r : R2) : Prop := ∀ (y : Cy) (dr : Option Addr) (F : Hp) (env : En) (σ : St) (H : Hp) (d1 d2 d : D) (v1 v2 : V) (Q : VK), Re X.G y dr F env σ H → Vr X.G b F env σ d1 v1 → Vr X.G b F env σ d2 v2 → f d1 d2 = some d →
  (∀ v H' F', Re X.G y dr F' env σ H' → Ex dr F H F' H' → Rv X.G F' d v → Q v H') → r v1 v2 H Q
theorem ob_mono {o : Option D} {P Q : D → Prop} (k : ∀ d, P d → Q d) (h : ob o P) : ob o Q := by
  cases o with
  | none => exact h
  | some d => exact k d h
theorem op_red {b' : Bool} {f : D → D → Option D} {r : R2} {a c : Expr} {ma mc : SE} (ok : Ok2 X b f r) (ha : ME X b a ma) (hc : ME X b c mc) {σ : St} {H : Hp} {Q : VK} (h : lE X.G b' (sOp f ma mc) σ H Q) : tOp r (lE X.G b ma) (lE X.G b mc) σ H Q := by
  obtain ⟨y, dr, F, env, re, hm⟩ := h
  refine ⟨y, dr, F, env, re, ha.mono _ _ _ (fun d1 h1 v1 H1 F1 r1 s1 w1 => ?_) hm⟩
  refine ⟨y, dr, F1, env, r1, hc.mono _ _ _ (fun d2 h2 v2 H2 F2 r2 s2 w2 => ?_) h1⟩
  cases q : f d1 d2 with
  | none => rw [q] at h2; exact h2.elim
  | some d =>
    rw [q] at h2
    exact ok y dr F2 env σ H2 d1 d2 d v1 v2 Q r2 (w1.mono s2) w2 q fun v H' F' r3 s3 w3 => h2 v H' F' r3 ((s1.trans s2).trans s3) (.inl w3)
theorem op_mono {f : D → D → Option D} {a c : Expr} {ma mc : SE} (ha : ME X b a ma) (hc : ME X b c mc) (env : En) (P Q : D → Prop) (k : ∀ d, P d → Q d) (h : sOp f ma mc env P) : sOp f ma mc env Q :=
  ha.mono _ _ _ (fun _ h1 => hc.mono _ _ _ (fun _ h2 => ob_mono k h2) h1) h
theorem me_op {b' : Bool} {op : Operator} {f : D → D → Option D} {r : R2} {a c : Expr} {pos : Pos} {ma mc : SE} (ho : OpR X (binaryOp op) r) (ok : Ok2 X b f r) (ha : ME X b a ma) (hc : ME X b c mc) : ME X b' (.BinOp a op c pos) (sOp f ma mc) :=
  ⟨⟨fun pins s σ H Q I h => (pe_op ho ha.run hc.run).run pins s σ H Q I (op_red ok ha hc h)⟩, op_mono ha hc⟩
theorem me_cmp {b' : Bool} {op : CmpOp} {f : D → D → Option D} {r : R2} {a c : Expr} {pos : Pos} {ma mc : SE} (ho : OpR X (compareOp op) r) (ok : Ok2 X b f r) (hm : behindInMarks op c = false) (ha : ME X b a ma) (hc : ME X b c mc) : ME X b' (.Compare a [op] [c] pos) (sOp f ma mc) :=
  ⟨⟨fun pins s σ H Q I h => (pe_cmpR ho ha.run hc.run hm).run pins s σ H Q I (op_red ok ha hc h)⟩, op_mono ha hc⟩
/-- a bool as a test -/
def sTB (m : SE) : SB := fun env Q => m env fun d => match d with
  | .bool c => Q c
  | _ => False
theorem tb_mono {e : Expr} {m : SE} (h : ME X b e m) (env : En) (P Q : Bool → Prop) (k : ∀ d, P d → Q d) (hp : sTB m env P) : sTB m env Q :=
  h.mono _ _ _ (fun d hd => by cases d <;> first | exact k _ hd | exact hd) hp
theorem tb_red {m : SE} {σ : St} {H : Hp} {Q : Bool → Hp → Prop} (mono : ∀ env (P Q : D → Prop), (∀ d, P d → Q d) → m env P → m env Q) (h : lT X.G (sTB m) σ H Q) : lE X.G false m σ H (fun x H' => ∃ k, x = .bl k ∧ Q k H') := by
  obtain ⟨y, dr, F, env, re, hm⟩ := h
  refine ⟨y, dr, F, env, re, mono _ _ _ (fun d hd v H' F' r1 s1 w => ?_) hm⟩
  cases d with
  | bool c =>
    cases w.rv
    exact ⟨c, rfl, hd H' F' r1 s1⟩
  | _ => exact hd.elim
theorem mt_cmp {op : CmpOp} {f : D → D → Option D} {r : R2} {a c : Expr} {pos : Pos} {ma mc : SE} (ho : OpR X (compareOp op) r) (ok : Ok2 X b f r) (hm : behindInMarks op c = false) (ha : ME X b a ma) (hc : ME X b c mc) : MT X (.Compare a [op] [c] pos) (sTB (sOp f ma mc)) :=
  ⟨⟨fun pins s σ H Q I h => (pt_cmpR ho ha.run hc.run hm).run pins s σ H Q I (op_red ok ha hc (tb_red (op_mono ha hc) h))⟩, tb_mono (me_cmp (b' := b) (pos := pos) ho ok hm ha hc)⟩
/-- a call whose value is a bool, as a test -/
theorem mt_val {e : Expr} {m : SE} (h : ME X false e m) (he : ∀ whole, isTrue e X.env whole = (do let v ← whole; standAt e.pos; holding [v] (truthy v)) := by intro _; rfl) : MT X e (sTB m) :=
  ⟨⟨fun pins s σ H Q I hq => (pt_val h.run he).run pins s σ H Q I (by
    obtain h2 := tb_red h.mono hq
    exact h2)⟩, tb_mono h⟩
end
end Mi

namespace Mi
open PySem PySem.Spec L2 PyProof.Rows
/-! ### tuples are laid as known objects -/
/-- the new tuple's object -/
def nT (us : List Value) : Obj := { cls := .type "tuple", data := .seq us.toArray }
theorem nT_TuO (us : List Value) : TuO (nT us) := ⟨rfl, rfl⟩
/-- what follows a new tuple -/
def NewT (xs : List V) (H : Hp) (Q : VK) : Prop := ∀ p o, TuO o → H p = none → Q (.ref p) (upd H p (.frz o (.tup xs)))
section
variable {X : Cx} {pins : List (Addr × Obj)} {σ : L2.St} {H : Hp} {s : Shared} {h' : Heap} {tk : Nat} {xs : List V} {us : List Value} {Q : VK}
theorem okT (r : Vals xs us) (hz : xs.length ≤ sizeLine) {a : Addr} {H2 : Hp} {h2 : Heap} (e : h2.get? a = some (nT us)) : ObjOk X.prog X.w H2 h2 a (.frz (nT us) (.tup xs)) := ⟨e, hz, us, r, ⟨_, e, rfl, _, rfl⟩⟩
/-- a tuple at the heap's end -/
theorem laidT (I : Inv X pins σ H { s with heap := h', toks := tk }) (r : Vals xs us) (hz : xs.length ≤ sizeLine) (q : NewT xs H Q) : EP X pins σ Q (.ref h'.objs.size) { s with heap := h'.push (nT us), toks := tk } :=
  ⟨.ref h'.objs.size, upd H h'.objs.size (.frz (nT us) (.tup xs)), I.laid (t' := tk) (fun b o e => Heap.get?_push_of_some _ e) (Nat.le_refl _) (okT r hz (Heap.get?_push_size _ rfl)), rfl, q _ _ (nT_TuO us) (I.hok.fresh (Nat.le_refl _))⟩
theorem laidT0 (I : Inv X pins σ H s) (r : Vals xs us) (hz : xs.length ≤ sizeLine) (q : NewT xs H Q) : EP X pins σ Q (.ref s.heap.objs.size) { s with heap := s.heap.push (nT us) } := laidT (s := s) (h' := s.heap) (tk := s.toks) I r hz q
end
section
variable {X : Cx} {es : List Expr} {t : TA} {pos : Pos} {a e : Expr} {ta : TE}
def tTupP (t : TA) : TE := fun σ H Q => t σ H fun xs H1 => xs.length ≤ sizeLine ∧ NewT xs H1 Q
theorem pe_tupP {x1} (h : PA X es t) : PE X (.Tuple es x1 pos) (tTupP t) := by
  refine ⟨fun pins s σ H Q I hq => ?_⟩
  exact wpAny_Tuple_spliced (thn (h.run pos pins s σ H _ I hq) fun us s1 ⟨xs, H1, I1, r, z, q⟩ => ⟨by rw [← r.length]; exact z, laidT0 I1 r z q⟩)
def rCatP (K : Fg) : R2 := fun x y H Q => ∃ a b xs ys, x = .ref a ∧ y = .ref b ∧ SqT K H a xs ∧ SqT K H b ys ∧ xs.length + ys.length ≤ sizeLine ∧
  (xs = [] → Q (.ref b) H) ∧ (xs ≠ [] → ys = [] → Q (.ref a) H) ∧ (xs ≠ [] → ys ≠ [] → NewT (xs ++ ys) H Q)
theorem op_catP : OpR X (binaryOp .Add) (rCatP X.G) := by
  intro pins s σ H x y v u Q I rx ry h
  obtain ⟨a, b, xs, ys, rfl, rfl, ha, hb, hz, q0, q1, q2⟩ := h
  obtain rfl : v = .ref a := rx
  obtain rfl : u = .ref b := ry
  obtain ⟨us, r1, p1, _⟩ := I.tuple ha
  obtain ⟨ws, r2, p2, _⟩ := I.tuple hb
  by_cases c : xs = []
  · subst c
    cases r1
    exact cat_tup0 p1 p2 ⟨.ref b, H, I, rfl, q0 rfl⟩
  · refine HT.cat_tup p1 p2 (fun z => c (r1.nil_iff.mp z)) (fun z => ⟨.ref a, H, I, rfl, q1 c (r2.nil_iff.mp z)⟩) (fun z => ?_) (by rw [← r1.length, ← r2.length]; exact hz)
    exact laidT0 I (r1.append r2) (by rw [List.length_append]; exact hz) (q2 c fun w => z (r2.nil_iff.mpr w))
def rSlP (K : Fg) : V → Option Int → Option Int → Hp → VK → Prop := fun x lo hi H Q => ∃ a xs, x = .ref a ∧ SqT K H a xs ∧
  (HT.sIx xs.length 0 lo = 0 ∧ HT.sIx xs.length xs.length hi = xs.length → Q (.ref a) H) ∧ (¬ (HT.sIx xs.length 0 lo = 0 ∧ HT.sIx xs.length xs.length hi = xs.length) → NewT (cutV xs lo hi) H Q)
theorem sl_tupP : SlR X (rSlP X.G) := by
  intro pins s σ H x v vl vu lo hi sl Q I rx hs pl pu h
  obtain ⟨a, xs, rfl, hx, q1, q2⟩ := h
  obtain rfl : v = .ref a := rx
  obtain ⟨us, r, ht, hz⟩ := I.tuple hx
  have hlen : us.toArray.size = xs.length := by rw [List.size_toArray]; exact r.length.symm
  refine ⟨"tuple", _, PyProof.Rows.slot_tuple_getitem.lookup, ht.typeIs, ?_⟩
  by_cases c : HT.sIx xs.length 0 lo = 0 ∧ HT.sIx xs.length xs.length hi = xs.length
  · exact getItem_tuple_whole ht hs pl pu (by rw [hlen]; exact c) ⟨.ref a, H, I, rfl, q1 c⟩
  · refine HT.getItem_tuple_cut ht hs pl pu (by rw [hlen]; exact c) ?_ (by rw [hlen]; exact hz)
    rw [hlen]
    exact laidT0 I ((r.drop (HT.sIx xs.length 0 lo)).take (HT.sIx xs.length xs.length hi - HT.sIx xs.length 0 lo)) (Nat.le_trans (cutV_length xs lo hi) hz) (q2 c)
theorem call_tupleP : CallR X (.type "tuple") (fun xs H Q => ∃ p ys, xs = [.ref p] ∧ ((SqL X.G H p ys ∧ NewT ys H Q) ∨ (SqT X.G H p ys ∧ Q (.ref p) H))) := by
  intro pins s σ H xs us Q I r h
  obtain ⟨p, ys, rfl, h⟩ := h
  obtain ⟨u, rfl, rx⟩ := vals1 r
  obtain rfl : u = .ref p := rx
  rcases h with ⟨hq, q⟩ | ⟨hq, q⟩
  · obtain ⟨ws, rw_, pl, hz⟩ := I.list hq
    refine call_tuple_list pl.isList (fun h' kp => ?_) (by rw [List.size_toArray, ← rw_.length]; exact hz)
    exact laidT (I.kept (t' := s.toks) kp) rw_ hz q
  · obtain ⟨ws, _, pl, _⟩ := I.tuple hq
    exact call_tuple_same pl ⟨.ref p, H, I, rfl, q⟩
def tTupRgP (te : L2.St → Hp → (Int → Int → Hp → Prop) → Prop) : TE := fun σ H Q => te σ H fun a b H1 => RgOk a b ∧ NewT (rgV a b) H1 Q
theorem pe_tupRgP {te : L2.St → Hp → (Int → Int → Hp → Prop) → Prop} {p : Pos} (hc : X.calm = true) (hg : Gl X "tuple") (hm : X.mg "tuple" = none) (he : PRg X e te) (na : starEach [e] X.env = (false, eval e X.env) :: starEach [] X.env := by rfl) : PE X (.Call (.Name "tuple" p) [e] [] pos) (tTupRgP te) := by
  refine ⟨fun pins s σ H Q I h => ?_⟩
  refine Call_ (ld_blt I hg hm boot_tuple (PyProof.Rows.callWith_type1 (args_cons (thn (he pins s σ H _ I h) fun x s1 ⟨r, a, b, t, u, v, H1, ex, hr, I1, ok, q⟩ => args_nil ?_) na) na))
  subst ex
  obtain ⟨b1, b2, b3, b4, b5⟩ := ok
  refine call_tuple_range (n := (b - a).toNat) (I1.ok.hd hc) hr (small_one b1 b2 b3 b4) (rangeSize_nat a b) b5 fun h' tk acc hk hi => ?_
  have e1 : acc = acc.toList.toArray := by simp
  have I2 : Inv X pins σ H1 { s1 with heap := h', toks := tk } := I1.kept hk
  have z := laidT I2 (vals_rg hi) (by rw [rgV_length, sizeLine_eq]; omega) q
  unfold nT at z
  rw [Array.toArray_toList] at z
  exact z
def rRepP (K : Fg) : R2 := fun x y H Q => ∃ l k xs, x = .ref l ∧ y = .int k ∧ SqT K H l xs ∧ xs ≠ [] ∧ 2 ≤ k ∧ k ≤ 1000 ∧ xs.length ≤ 1000 ∧ NewT (List.replicate k.toNat xs).flatten H Q
theorem op_repP : OpR X (binaryOp .Mult) (rRepP X.G) := by
  intro pins s σ H x y v u Q I rx ry h
  obtain ⟨l, k, xs, rfl, rfl, hT, hne, h1, h2, hz, q⟩ := h
  obtain rfl : v = .ref l := rx
  obtain ⟨t, rfl⟩ := ry
  obtain ⟨us, r, ⟨⟨cls, dd, data, sl⟩, ho, hc, n, hd⟩, hs⟩ := I.tuple hT
  simp only at hc hd
  subst hc hd
  have hle : us.length = xs.length := r.length.symm
  have hn : us ≠ [] := fun e => hne (List.eq_nil_of_length_eq_zero (by rw [← hle, e]; rfl))
  have hi : us.toArray.isEmpty = false := by
    cases us with
    | nil => exact absurd rfl hn
    | cons a b => rfl
  have hsz0 : us.toArray.size = xs.length := by rw [List.size_toArray, hle]
  have a0 : k.toNat * xs.length ≤ 1000 * 1000 := Nat.mul_le_mul (by omega) hz
  have hm : ((us.toArray.size : Nat) : Int) * k ≤ 1000000 := by
    rw [hsz0]
    have a1 : ((xs.length : Nat) : Int) * k ≤ 1000 * k := Int.mul_le_mul_of_nonneg_right (by omega) (by omega)
    omega
  have flen : (List.replicate k.toNat us).flatten.length ≤ sizeLine := by
    rw [PyProof.Rows.lm_len_rep_flat, hle, sizeLine_eq]
    omega
  have flx : (List.replicate k.toNat xs).flatten.length ≤ sizeLine := by
    rw [PyProof.Rows.lm_len_rep_flat, sizeLine_eq]
    omega
  have c0 : (decide (k < -(2 ^ 63)) || decide (k ≥ 2 ^ 63)) = false := by
    simp only [Bool.or_eq_false_iff, decide_eq_false_iff_not]
    omega
  have c1 : (us.toArray.isEmpty || k == 1) = false := by
    rw [hi, Bool.false_or]
    exact beq_eq_false_iff_ne.mpr (by omega)
  have c2 : (decide (k ≤ 0) || us.toArray.isEmpty) = false := by
    rw [hi, Bool.or_false]
    exact decide_eq_false (by omega)
  have c4 : Builtin.Tuple.tupleTooMany (((us.toArray.size : Nat) : Int) * k) = false := by
    unfold Builtin.Tuple.tupleTooMany
    rw [sizeLine_eq]
    exact decide_eq_false (by omega)
  refine wpAny_binaryOp_repeat_ref (T := "tuple") (U := "int") (by decide) ⟨_, ho, rfl⟩ (fun s' => typeIs_int s' k t) noFill_tuple_mul F.fills_int_mul F.slot_int_rmul repeat_tuple F.slot_int_index.lookup
    (call_meets F.slot_int_rmul (typeIs_int s k t) F.entry_int_rmul (F.args_int_rmul_2 _ _) (int_rmul_tuple k t l us.toArray n dd sl)
      ⟨ho, rfl, ⟨_, ho, rfl⟩, call_meets F.slot_tuple_mul ⟨_, ho, rfl⟩ F.entry_tuple_mul (F.args_tuple_mul_2 _ _) (tuple_mulW l us.toArray n dd sl k t c0 c1 c2 (by omega) c4 (by rw [size_rep, List.size_toArray]; exact flen)) ⟨ho, ?_⟩⟩)
  rw [size_rep]
  exact laidT0 I (r.rep k.toNat) flx q
end
end Mi

namespace Mi
open PySem PySem.Spec L2
/-! ### what the values hold -/
section
variable {X : Cx} {b : Bool} {K : Fg} {y : Cy} {dr : Option Addr} {F H : Hp} {env : En} {σ : L2.St}
theorem Vr.list (re : Re K y dr F env σ H) {xs : List D} {v : V} (w : Vr K b F env σ (.list xs) v) : ∃ a vs, v = .ref a ∧ H a = some (.lst vs) ∧ xs.length ≤ sizeLine ∧ Rvs K F xs vs := by
  rcases w with w | ⟨_, i, s, e1, e2, e3⟩
  · cases w with
    | lst h1 h2 h3 => exact ⟨_, _, rfl, re.rf.sub _ _ h1, h2, h3⟩
  · obtain ⟨o, q1, q2⟩ := re.get e1
    cases s with
    | l zs =>
      cases e2
      obtain ⟨a, vs, h1, h2, h3, h4, _⟩ := q2
      rw [e3] at q1; cases q1
      cases h1
      exact ⟨a, vs, rfl, h2, h3, h4⟩
    | _ => cases e2
theorem Vr.tuple (re : Re K y dr F env σ H) {xs : List D} {v : V} (w : Vr K b F env σ (.tuple xs) v) : ∃ a vs, v = .ref a ∧ PlT K F a vs ∧ xs.length ≤ sizeLine ∧ Rvs K F xs vs := by
  rcases w with w | ⟨_, i, s, e1, e2, e3⟩
  · cases w with
    | tup h1 h2 h3 => exact ⟨_, _, rfl, h1, h2, h3⟩
  · cases s <;> cases e2
theorem Vr.int (w : Vr K b F env σ (.int i) v) : v = .int i := by
  rcases w with w | ⟨_, j, s, e1, e2, e3⟩
  · cases w; rfl
  · cases s <;> cases e2
theorem Vr.bool (w : Vr K b F env σ (.bool i) v) : v = .bl i := by
  rcases w with w | ⟨_, j, s, e1, e2, e3⟩
  · cases w; rfl
  · cases s <;> cases e2
theorem Vr.none (w : Vr K b F env σ .none v) : v = .non := by
  rcases w with w | ⟨_, j, s, e1, e2, e3⟩
  · cases w; rfl
  · cases s <;> cases e2
theorem Vr.str (w : Vr K b F env σ (.str i) v) : v = .str i ∧ i.length ≤ sizeLine := by
  rcases w with w | ⟨_, j, s, e1, e2, e3⟩
  · cases w; exact ⟨rfl, by assumption⟩
  · cases s <;> cases e2
theorem re_tuple (re : Re K y dr F env σ H) {a : Addr} {vs : List V} (h : PlT K F a vs) : SqT K H a vs := sqT_mono re.rf.sub h.sq
/-- the data of the kit -/
theorem Rv.dp : ∀ {d : D} {v : V}, Rv K F d v → d.canLay0 = true → Dp K F v d
  | _, _, .non, _ => .non
  | _, _, .bl b, _ => .bl b
  | _, _, .int i, _ => .int i
  | _, _, .str s z, _ => .str s
  | _, _, .lst q z r, c => .lst (SqL.of q) (go r (by simpa [PyData.canLay0] using c))
  | _, _, .tup q z r, c => .tup q.sq (go r (by simpa [PyData.canLay0] using c))
  | _, _, .dic q r, c => by simp [PyData.canLay0] at c
  | _, _, .dit q r, c => by simp [PyData.canLay0] at c
  | _, _, .dil q r, c => by simp [PyData.canLay0] at c
where go : ∀ {d : List D} {v : List V}, Rvs K F d v → PyData.canLayAll0 d = true → DpAll K F v d
  | _, _, .nil, _ => .nil
  | _, _, .cons a b, c => by
    simp only [PyData.canLayAll0, Bool.and_eq_true] at c
    exact .cons (Rv.dp a c.1) (go b c.2)
theorem dp_mono {F F' : Hp} (h : Same F F') : ∀ {v : V} {d : D}, Dp K F v d → Dp K F' v d
  | _, _, .non => .non
  | _, _, .bl b => .bl b
  | _, _, .int i => .int i
  | _, _, .str x => .str x
  | _, _, .lst q r => .lst (sqL_mono h q) (go r)
  | _, _, .tup q r => .tup (sqT_mono h q) (go r)
where go : ∀ {v : List V} {d : List D}, DpAll K F v d → DpAll K F' v d
  | _, _, .nil => .nil
  | _, _, .cons a b => .cons (dp_mono h a) (go b)
theorem Vr.dp (re : Re K y dr F env σ H) {d : D} {v : V} (w : Vr K b F env σ d v) (c : d.canLay0 = true) : Dp K H v d := by
  rcases w with w | ⟨z, i, s, e1, e2, e3⟩
  · exact dp_mono re.rf.sub (w.dp c)
  · cases s with
    | l zs =>
      cases e2
      obtain ⟨a, vs, rfl, h2, h3, h4⟩ := Vr.list (b := b) re (.inr ⟨z, i, _, e1, rfl, e3⟩)
      exact .lst (SqL.of h2) (dp_mono.go re.rf.sub (Rv.dp.go h4 (by simpa [PyData.canLay0] using c)))
    | k zs => cases e2; simp [PyData.canLay0] at c
    | t zs => cases e2; simp [PyData.canLay0] at c
    | _ => cases e2
/-! ### numbers -/
/-- the kernel must not reckon with the great numbers here: the choice is not to be reduced -/
noncomputable def cIf {α : Type} (p : Prop) (a b : α) : α := @ite α p (Classical.propDecidable p) a b
theorem cIf_pos {α : Type} {p : Prop} {a b : α} (h : p) : cIf p a b = a := @if_pos p (Classical.propDecidable p) h α a b
theorem cIf_neg {α : Type} {p : Prop} {a b : α} (h : ¬p) : cIf p a b = b := @if_neg p (Classical.propDecidable p) h α a b
noncomputable def small (i : Int) : Bool := @decide (-18446744073709551616 < i ∧ i < 18446744073709551616) (Classical.propDecidable _)
def addD : D → D → Option D
  | .int i, .int j => some (.int (i + j))
  | .str x, .str z => if x.length + z.length ≤ sizeLine then some (.str (x ++ z)) else none
  | .tuple xs, .tuple ys => if xs.length + ys.length ≤ sizeLine then some (.tuple (xs ++ ys)) else none
  | .list xs, .list ys => if xs.length + ys.length ≤ sizeLine then some (.list (xs ++ ys)) else none
  | _, _ => none
def subD : D → D → Option D
  | .int i, .int j => some (.int (i - j))
  | _, _ => none
noncomputable def mulD : D → D → Option D
  | .int i, .int j => if small i = true ∨ small j = true then some (.int (i * j)) else none
  | .list xs, .int k => cIf (-(2 ^ 62) ≤ k ∧ k < 2 ^ 62 ∧ xs.length * k.toNat ≤ sizeLine) (some (.list (List.replicate k.toNat xs).flatten)) none
  | _, _ => none
noncomputable def fdivD : D → D → Option D
  | .int i, .int j => cIf (0 < j ∧ j < 1073741824) (some (.int (i / j))) none
  | _, _ => none
def modD : D → D → Option D
  | .int i, .int j => if 0 < j then some (.int (i % j)) else none
  | _, _ => none
noncomputable def powD : D → D → Option D
  | .int i, .int j => cIf (0 ≤ j ∧ j ≤ 1000000 ∧ i.natAbs < 2 ^ 64) (some (.int (i ^ j.toNat))) none
  | _, _ => none
def negD : D → Option D
  | .int i => some (.int (-i))
  | _ => none
def ltD : D → D → Option D
  | .int i, .int j => some (.bool (decide (i < j)))
  | .str x, .str z => some (.bool (decide (x.cps.toList < z.cps.toList)))
  | .tuple xs, .tuple ys => if W.alike (.tuple xs) (.tuple ys) = true ∧ SeqAt.shaped (.tuple xs) = true ∧ SeqAt.shaped (.tuple ys) = true then some (.bool (W.dataLt (.tuple xs) (.tuple ys))) else none
  | _, _ => none
def leD : D → D → Option D
  | .int i, .int j => some (.bool (decide (i ≤ j)))
  | .str x, .str z => some (.bool (!decide (z.cps.toList < x.cps.toList)))
  | .tuple xs, .tuple ys => if W.alike (.tuple xs) (.tuple ys) = true ∧ SeqAt.shaped (.tuple xs) = true ∧ SeqAt.shaped (.tuple ys) = true then some (.bool (!W.dataLt (.tuple ys) (.tuple xs))) else none
  | _, _ => none
def gtD : D → D → Option D
  | .int i, .int j => some (.bool (decide (j < i)))
  | .str x, .str z => some (.bool (decide (z.cps.toList < x.cps.toList)))
  | .tuple xs, .tuple ys => if W.alike (.tuple xs) (.tuple ys) = true ∧ SeqAt.shaped (.tuple xs) = true ∧ SeqAt.shaped (.tuple ys) = true then some (.bool (W.dataLt (.tuple ys) (.tuple xs))) else none
  | _, _ => none
def geD : D → D → Option D
  | .int i, .int j => some (.bool (decide (j ≤ i)))
  | .str x, .str z => some (.bool (!decide (x.cps.toList < z.cps.toList)))
  | .tuple xs, .tuple ys => if W.alike (.tuple xs) (.tuple ys) = true ∧ SeqAt.shaped (.tuple xs) = true ∧ SeqAt.shaped (.tuple ys) = true then some (.bool (!W.dataLt (.tuple xs) (.tuple ys))) else none
  | _, _ => none
def eqB (x z : D) : Option Bool := match x, z with
  | .int i, .int j => some (decide (i = j))
  | .str i, .str j => some (decide (i = j))
  | .bool i, .bool j => some (decide (i = j))
  | x, z => if SeqAt.shaped x = true ∧ SeqAt.shaped z = true then some (PyData.eqv x z) else none
def eqD (x z : D) : Option D := (eqB x z).map .bool
def neD (x z : D) : Option D := (eqB x z).map fun c => .bool (!c)
def isN (x : D) : Bool := match x with
  | .none => true
  | _ => false
end
section
variable {X : Cx} {b b' : Bool} {a c : Expr} {ma mc : SE} {pos : Pos}
theorem or1 {f : Value → Value → Sem Value} {r r' : R2} (h : OpR X f r) (h' : OpR X f r') : OpR X f (fun x z H Q => r x z H Q ∨ r' x z H Q) := h.or h'
theorem op_addA : OpR X (binaryOp .Add) (fun x z H Q => rI0 (fun i j => .int (i + j)) x z H Q ∨ ((∃ i j, x = .str i ∧ z = .str j ∧ i.length + j.length ≤ sizeLine ∧ Q (.str (i ++ j)) H) ∨ (rCatP X.G x z H Q ∨ rCat x z H Q))) :=
  op_add.or (op_add_str.or (op_catP.or op_cat))
theorem str_append_length (x z : Str) : (x ++ z).length = x.length + z.length := by
  show (x.cps ++ z.cps).size = x.cps.size + z.cps.size
  exact Array.size_append
theorem Rv.tupNew {K : Fg} {F : Hp} {p : Addr} {o : Obj} {xs : List D} {vs : List V} (hp : F p = none) (t : TuO o) (hz : xs.length ≤ sizeLine) (r : Rvs K F xs vs) : Rv K (upd F p (.frz o (.tup vs))) (.tuple xs) (.ref p) :=
  .tup (.inl ⟨o, upd_same, t⟩) hz (r.mono (upd_grow hp))
theorem Rv.lstNew {K : Fg} {F : Hp} {p : Addr} {xs : List D} {vs : List V} (hp : F p = none) (hz : xs.length ≤ sizeLine) (r : Rvs K F xs vs) : Rv K (upd F p (.lst vs)) (.list xs) (.ref p) :=
  .lst upd_same hz (r.mono (upd_grow hp))
theorem ok_add : Ok2 X b addD (fun x z H Q => rI0 (fun i j => .int (i + j)) x z H Q ∨ ((∃ i j, x = .str i ∧ z = .str j ∧ i.length + j.length ≤ sizeLine ∧ Q (.str (i ++ j)) H) ∨ (rCatP X.G x z H Q ∨ rCat x z H Q))) := by
  intro y dr F env σ H d1 d2 d v1 v2 Q re w1 w2 e k
  unfold addD at e
  split at e
  · cases e
    exact .inl ⟨_, _, w1.int, w2.int, k _ H F re Ex.refl (.int _)⟩
  · split at e
    · cases e
      rename_i hz
      exact .inr (.inl ⟨_, _, w1.str.1, w2.str.1, hz, k _ H F re Ex.refl (.str _ (by rw [str_append_length]; exact hz))⟩)
    · cases e
  · split at e
    · cases e
      rename_i xs ys hz
      obtain ⟨a1, vs, rfl, h1, z1, r1⟩ := w1.tuple re
      obtain ⟨a2, ws, rfl, h2, z2, r2⟩ := w2.tuple re
      have l1 := r1.length
      have l2 := r2.length
      refine .inr (.inr (.inl ⟨a1, a2, vs, ws, rfl, rfl, re_tuple re h1, re_tuple re h2, by omega, fun e => ?_, fun _ e => ?_, fun _ _ p o t hp => ?_⟩))
      · subst e
        cases r1
        exact k _ H F re Ex.refl (.tup h2 z2 r2)
      · subst e
        cases r2
        rw [List.append_nil] at k
        exact k _ H F re Ex.refl (.tup h1 z1 r1)
      · exact k _ _ _ (re.laid hp) (re.ex hp) (Rv.tupNew (re.nF hp) t (by rw [List.length_append]; exact hz) (r1.append r2))
    · cases e
  · split at e
    · cases e
      rename_i xs ys hz
      obtain ⟨a1, vs, rfl, h1, z1, r1⟩ := w1.list re
      obtain ⟨a2, ws, rfl, h2, z2, r2⟩ := w2.list re
      have l1 := r1.length
      have l2 := r2.length
      refine .inr (.inr (.inr ⟨a1, a2, vs, ws, rfl, rfl, h1, h2, by omega, fun p hp => ?_⟩))
      exact k _ _ _ (re.laid hp) (re.ex hp) (Rv.lstNew (re.nF hp) (by rw [List.length_append]; exact hz) (r1.append r2))
    · cases e
  · cases e
theorem me_add (ha : ME X b a ma) (hc : ME X b c mc) : ME X b' (.BinOp a .Add c pos) (sOp addD ma mc) := me_op op_addA ok_add ha hc
theorem ok_sub : Ok2 X b subD (rI0 fun i j => .int (i - j)) := by
  intro y dr F env σ H d1 d2 d v1 v2 Q re w1 w2 e k
  unfold subD at e
  split at e
  · cases e
    exact ⟨_, _, w1.int, w2.int, k _ H F re Ex.refl (.int _)⟩
  · cases e
theorem me_sub (ha : ME X b a ma) (hc : ME X b c mc) : ME X b' (.BinOp a .Sub c pos) (sOp subD ma mc) := me_op op_sub ok_sub ha hc
theorem small_iff {i : Int} (h : small i = true) : -(2 ^ 64) < i ∧ i < 2 ^ 64 := by
  unfold small at h
  have := @of_decide_eq_true _ (Classical.propDecidable _) h
  omega
theorem Rvs.rep {K : Fg} {F : Hp} {xs : List D} {vs : List V} (r : Rvs K F xs vs) : ∀ n, Rvs K F (List.replicate n xs).flatten (List.replicate n vs).flatten
  | 0 => .nil
  | n + 1 => by
    rw [List.replicate_succ, List.replicate_succ, List.flatten_cons, List.flatten_cons]
    exact r.append (Rvs.rep r n)
theorem flat_len {α : Type} (xs : List α) : ∀ n, (List.replicate n xs).flatten.length = xs.length * n
  | 0 => by simp
  | n + 1 => by rw [List.replicate_succ, List.flatten_cons, List.length_append, flat_len xs n, Nat.mul_succ]; omega
theorem ok_mul : Ok2 X b mulD (fun x z H Q => rI CMul (fun i j => .int (i * j)) x z H Q ∨ rRep x z H Q) := by
  intro y dr F env σ H d1 d2 d v1 v2 Q re w1 w2 e k
  unfold mulD at e
  split at e
  · split at e
    · cases e
      rename_i h
      exact .inl ⟨_, _, w1.int, w2.int, h.imp small_iff small_iff, k _ H F re Ex.refl (.int _)⟩
    · cases e
  · unfold cIf at e
    split at e
    · cases e
      rename_i xs n h
      obtain ⟨a1, vs, rfl, h1, z1, r1⟩ := w1.list re
      have l1 := r1.length
      refine .inr ⟨a1, _, vs, rfl, w2.int, h1, by omega, by omega, by rw [← l1]; exact h.2.2, fun p hp => ?_⟩
      exact k _ _ _ (re.laid hp) (re.ex hp) (Rv.lstNew (re.nF hp) (by rw [flat_len]; exact h.2.2) (r1.rep _))
    · cases e
  · cases e
theorem me_mul (ha : ME X b a ma) (hc : ME X b c mc) : ME X b' (.BinOp a .Mult c pos) (sOp mulD ma mc) := me_op (op_mul.or op_rep) ok_mul ha hc
theorem ok_fdiv : Ok2 X b fdivD (rI CDiv fun i j => .int (i / j)) := by
  intro y dr F env σ H d1 d2 d v1 v2 Q re w1 w2 e k
  unfold fdivD at e
  split at e
  · unfold cIf at e
    split at e
    · cases e
      rename_i h
      exact ⟨_, _, w1.int, w2.int, h, k _ H F re Ex.refl (.int _)⟩
    · cases e
  · cases e
theorem me_fdiv (ha : ME X b a ma) (hc : ME X b c mc) : ME X b' (.BinOp a .FloorDiv c pos) (sOp fdivD ma mc) := me_op op_fdiv ok_fdiv ha hc
theorem ok_mod : Ok2 X b modD (rI (fun _ j => 0 < j) fun i j => .int (i % j)) := by
  intro y dr F env σ H d1 d2 d v1 v2 Q re w1 w2 e k
  unfold modD at e
  split at e
  · split at e
    · cases e
      rename_i h
      exact ⟨_, _, w1.int, w2.int, h, k _ H F re Ex.refl (.int _)⟩
    · cases e
  · cases e
theorem me_mod (ha : ME X b a ma) (hc : ME X b c mc) : ME X b' (.BinOp a .Mod c pos) (sOp modD ma mc) := me_op op_mod ok_mod ha hc
theorem ok_pow : Ok2 X b powD (rI CPow fun i j => .int (i ^ j.toNat)) := by
  intro y dr F env σ H d1 d2 d v1 v2 Q re w1 w2 e k
  unfold powD at e
  split at e
  · unfold cIf at e
    split at e
    · cases e
      rename_i h
      exact ⟨_, _, w1.int, w2.int, h, k _ H F re Ex.refl (.int _)⟩
    · cases e
  · cases e
theorem me_pow (ha : ME X b a ma) (hc : ME X b c mc) : ME X b' (.BinOp a .Pow c pos) (sOp powD ma mc) := me_op op_pow ok_pow ha hc
def sUn (f : D → Option D) (a : SE) : SE := fun env Q => a env fun x => ob (f x) Q
theorem me_neg (ha : ME X b a ma) : ME X b' (.UnaryOp .USub a pos) (sUn negD ma) := by
  refine ⟨⟨fun pins s σ H Q I h => (pe_un un_neg ha.run).run pins s σ H Q I ?_⟩, fun env P Q k h => ha.mono _ _ _ (fun _ h1 => ob_mono k h1) h⟩
  obtain ⟨y, dr, F, env, re, hm⟩ := h
  refine ⟨y, dr, F, env, re, ha.mono _ _ _ (fun d1 h1 v1 H1 F1 r1 s1 w1 => ?_) hm⟩
  cases d1 with
  | int i => exact ⟨i, w1.int, h1 _ H1 F1 r1 s1 (.inl (.int _))⟩
  | _ => exact h1.elim
/-! ### comparisons -/
theorem op_ltD {op : CmpOp} (hu : X.A.units + 65 < cLine) : OpR X (compareOp .Lt) (fun x z H Q => ∃ d e, Dp X.G H x d ∧ Dp X.G H z e ∧ W.alike d e = true ∧ d ≠ .none ∧ SeqAt.shaped d = true ∧ SeqAt.shaped e = true ∧ Q (.bl (W.dataLt d e)) H) := by
  intro pins s σ H x y v u Q I rx ry h
  obtain ⟨d, e, hd, he, al, hn, sd, se, q⟩ := h
  obtain ⟨as, r1⟩ := Dp.reads I d x v hd rx
  obtain ⟨bs, r2⟩ := Dp.reads I e y u he ry
  have hdep : d.depth ≤ 64 := by
    unfold SeqAt.shaped at sd
    simp only [Bool.and_eq_true, decide_eq_true_eq] at sd
    exact sd.2
  exact W.rcLt_alike d e X.A s v u as bs r1 r2 al hn (by omega) X.prog X.w _ _ ⟨.bl _, H, I, rfl, q⟩
theorem op_gtD  (hu : X.A.units + 65 < cLine) : OpR X (compareOp .Gt) (fun x z H Q => ∃ d e, Dp X.G H x d ∧ Dp X.G H z e ∧ W.alike d e = true ∧ d ≠ .none ∧ SeqAt.shaped d = true ∧ SeqAt.shaped e = true ∧ Q (.bl (W.dataLt e d)) H) := by
  intro pins s σ H x y v u Q I rx ry h
  obtain ⟨d, e, hd, he, al, hn, sd, se, q⟩ := h
  obtain ⟨as, r1⟩ := Dp.reads I d x v hd rx
  obtain ⟨bs, r2⟩ := Dp.reads I e y u he ry
  have hdep : d.depth ≤ 64 := by
    unfold SeqAt.shaped at sd
    simp only [Bool.and_eq_true, decide_eq_true_eq] at sd
    exact sd.2
  exact W.rcGt_alike d e X.A s v u as bs r1 r2 al hn (by omega) X.prog X.w _ _ ⟨.bl _, H, I, rfl, q⟩
theorem op_leD  (hu : X.A.units + 65 < cLine) : OpR X (compareOp .LtE) (fun x z H Q => ∃ d e, Dp X.G H x d ∧ Dp X.G H z e ∧ W.alike d e = true ∧ d ≠ .none ∧ SeqAt.shaped d = true ∧ SeqAt.shaped e = true ∧ Q (.bl (!W.dataLt e d)) H) := by
  intro pins s σ H x y v u Q I rx ry h
  obtain ⟨d, e, hd, he, al, hn, sd, se, q⟩ := h
  obtain ⟨as, r1⟩ := Dp.reads I d x v hd rx
  obtain ⟨bs, r2⟩ := Dp.reads I e y u he ry
  have hdep : d.depth ≤ 64 := by
    unfold SeqAt.shaped at sd
    simp only [Bool.and_eq_true, decide_eq_true_eq] at sd
    exact sd.2
  exact W.rcLe_alike d e X.A s v u as bs r1 r2 al hn (by omega) X.prog X.w _ _ ⟨.bl _, H, I, rfl, q⟩
theorem op_geD  (hu : X.A.units + 65 < cLine) : OpR X (compareOp .GtE) (fun x z H Q => ∃ d e, Dp X.G H x d ∧ Dp X.G H z e ∧ W.alike d e = true ∧ d ≠ .none ∧ SeqAt.shaped d = true ∧ SeqAt.shaped e = true ∧ Q (.bl (!W.dataLt d e)) H) := by
  intro pins s σ H x y v u Q I rx ry h
  obtain ⟨d, e, hd, he, al, hn, sd, se, q⟩ := h
  obtain ⟨as, r1⟩ := Dp.reads I d x v hd rx
  obtain ⟨bs, r2⟩ := Dp.reads I e y u he ry
  have hdep : d.depth ≤ 64 := by
    unfold SeqAt.shaped at sd
    simp only [Bool.and_eq_true, decide_eq_true_eq] at sd
    exact sd.2
  exact W.rcGe_alike d e X.A s v u as bs r1 r2 al hn (by omega) X.prog X.w _ _ ⟨.bl _, H, I, rfl, q⟩
end
end Mi

namespace Mi
open PySem PySem.Spec L2
section
variable {X : Cx} {b b' : Bool} {a c e : Expr} {ma mc me : SE} {pos : Pos}
def rLtA (K : Fg) : R2 := fun x z H Q => rI0 (fun i j => .bl (decide (i < j))) x z H Q ∨ ((∃ i j, x = .str i ∧ z = .str j ∧ Q (.bl (decide (i.cps.toList < j.cps.toList))) H) ∨ (∃ d e, Dp K H x d ∧ Dp K H z e ∧ W.alike d e = true ∧ d ≠ .none ∧ SeqAt.shaped d = true ∧ SeqAt.shaped e = true ∧ Q (.bl (W.dataLt d e)) H))
theorem op_ltA (hu : X.A.units + 65 < cLine) : OpR X (compareOp .Lt) (rLtA X.G) := op_lt.or (op_lt_str.or (op_ltD (op := .Lt) hu))
theorem lay_shaped {d : D} (h : SeqAt.shaped d = true) : d.canLay0 = true := by
  unfold SeqAt.shaped at h
  simp only [Bool.and_eq_true] at h
  exact h.1
theorem ok_lt : Ok2 X b ltD (rLtA X.G) := by
  intro y dr F env σ H d1 d2 d v1 v2 Q re w1 w2 e k
  unfold ltD at e
  split at e
  · cases e
    exact .inl ⟨_, _, w1.int, w2.int, k _ H F re Ex.refl (.bl _)⟩
  · cases e
    exact .inr (.inl ⟨_, _, w1.str.1, w2.str.1, k _ H F re Ex.refl (.bl _)⟩)
  · split at e
    · cases e
      rename_i h
      exact .inr (.inr ⟨_, _, w1.dp re (lay_shaped h.2.1), w2.dp re (lay_shaped h.2.2), h.1, by simp, h.2.1, h.2.2, k _ H F re Ex.refl (.bl _)⟩)
    · cases e
  · cases e
def rLeA (K : Fg) : R2 := fun x z H Q => rI0 (fun i j => .bl (decide (i ≤ j))) x z H Q ∨ ((∃ i j, x = .str i ∧ z = .str j ∧ Q (.bl (!decide (j.cps.toList < i.cps.toList))) H) ∨ (∃ d e, Dp K H x d ∧ Dp K H z e ∧ W.alike d e = true ∧ d ≠ .none ∧ SeqAt.shaped d = true ∧ SeqAt.shaped e = true ∧ Q (.bl (!W.dataLt e d)) H))
theorem op_leA (hu : X.A.units + 65 < cLine) : OpR X (compareOp .LtE) (rLeA X.G) := op_le.or (op_le_str.or (op_leD hu))
theorem ok_le : Ok2 X b leD (rLeA X.G) := by
  intro y dr F env σ H d1 d2 d v1 v2 Q re w1 w2 e k
  unfold leD at e
  split at e
  · cases e
    exact .inl ⟨_, _, w1.int, w2.int, k _ H F re Ex.refl (.bl _)⟩
  · cases e
    exact .inr (.inl ⟨_, _, w1.str.1, w2.str.1, k _ H F re Ex.refl (.bl _)⟩)
  · split at e
    · cases e
      rename_i h
      exact .inr (.inr ⟨_, _, w1.dp re (lay_shaped h.2.1), w2.dp re (lay_shaped h.2.2), h.1, by simp, h.2.1, h.2.2, k _ H F re Ex.refl (.bl _)⟩)
    · cases e
  · cases e
def rGtA (K : Fg) : R2 := fun x z H Q => rI0 (fun i j => .bl (decide (j < i))) x z H Q ∨ ((∃ i j, x = .str i ∧ z = .str j ∧ Q (.bl (decide (j.cps.toList < i.cps.toList))) H) ∨ (∃ d e, Dp K H x d ∧ Dp K H z e ∧ W.alike d e = true ∧ d ≠ .none ∧ SeqAt.shaped d = true ∧ SeqAt.shaped e = true ∧ Q (.bl (W.dataLt e d)) H))
theorem op_gtA (hu : X.A.units + 65 < cLine) : OpR X (compareOp .Gt) (rGtA X.G) := op_gt.or (op_gt_str.or (op_gtD hu))
theorem ok_gt : Ok2 X b gtD (rGtA X.G) := by
  intro y dr F env σ H d1 d2 d v1 v2 Q re w1 w2 e k
  unfold gtD at e
  split at e
  · cases e
    exact .inl ⟨_, _, w1.int, w2.int, k _ H F re Ex.refl (.bl _)⟩
  · cases e
    exact .inr (.inl ⟨_, _, w1.str.1, w2.str.1, k _ H F re Ex.refl (.bl _)⟩)
  · split at e
    · cases e
      rename_i h
      exact .inr (.inr ⟨_, _, w1.dp re (lay_shaped h.2.1), w2.dp re (lay_shaped h.2.2), h.1, by simp, h.2.1, h.2.2, k _ H F re Ex.refl (.bl _)⟩)
    · cases e
  · cases e
def rGeA (K : Fg) : R2 := fun x z H Q => rI0 (fun i j => .bl (decide (j ≤ i))) x z H Q ∨ ((∃ i j, x = .str i ∧ z = .str j ∧ Q (.bl (!decide (i.cps.toList < j.cps.toList))) H) ∨ (∃ d e, Dp K H x d ∧ Dp K H z e ∧ W.alike d e = true ∧ d ≠ .none ∧ SeqAt.shaped d = true ∧ SeqAt.shaped e = true ∧ Q (.bl (!W.dataLt d e)) H))
theorem op_geA (hu : X.A.units + 65 < cLine) : OpR X (compareOp .GtE) (rGeA X.G) := op_ge.or (op_ge_str.or (op_geD hu))
theorem ok_ge : Ok2 X b geD (rGeA X.G) := by
  intro y dr F env σ H d1 d2 d v1 v2 Q re w1 w2 e k
  unfold geD at e
  split at e
  · cases e
    exact .inl ⟨_, _, w1.int, w2.int, k _ H F re Ex.refl (.bl _)⟩
  · cases e
    exact .inr (.inl ⟨_, _, w1.str.1, w2.str.1, k _ H F re Ex.refl (.bl _)⟩)
  · split at e
    · cases e
      rename_i h
      exact .inr (.inr ⟨_, _, w1.dp re (lay_shaped h.2.1), w2.dp re (lay_shaped h.2.2), h.1, by simp, h.2.1, h.2.2, k _ H F re Ex.refl (.bl _)⟩)
    · cases e
  · cases e
def rEqA (K : Fg) : R2 := fun x z H Q => rEq x z H Q ∨ rEqD K x z H Q
def rNeA (K : Fg) : R2 := fun x z H Q => rNe x z H Q ∨ rNeD K x z H Q
theorem ok_eq : Ok2 X b eqD (rEqA X.G) := by
  intro y dr F env σ H d1 d2 d v1 v2 Q re w1 w2 e k
  unfold eqD eqB at e
  split at e
  · cases e
    refine .inl ⟨by rw [w1.int, w2.int]; rfl, ?_⟩
    rw [w1.int, w2.int]
    have z := k _ H F re Ex.refl (.bl _)
    simpa using z
  · cases e
    refine .inl ⟨by rw [w1.str.1, w2.str.1]; rfl, ?_⟩
    rw [w1.str.1, w2.str.1]
    have z := k _ H F re Ex.refl (.bl _)
    simpa using z
  · cases e
    refine .inl ⟨by rw [w1.bool, w2.bool]; rfl, ?_⟩
    rw [w1.bool, w2.bool]
    have z := k _ H F re Ex.refl (.bl _)
    simpa using z
  · split at e
    · cases e
      rename_i h
      exact .inr ⟨_, _, w1.dp re (lay_shaped h.1), w2.dp re (lay_shaped h.2), h.1, h.2, k _ H F re Ex.refl (.bl _)⟩
    · cases e
theorem ok_ne : Ok2 X b neD (rNeA X.G) := by
  intro y dr F env σ H d1 d2 d v1 v2 Q re w1 w2 e k
  unfold neD eqB at e
  split at e
  · cases e
    refine .inl ⟨by rw [w1.int, w2.int]; rfl, ?_⟩
    rw [w1.int, w2.int]
    have z := k _ H F re Ex.refl (.bl _)
    simpa using z
  · cases e
    refine .inl ⟨by rw [w1.str.1, w2.str.1]; rfl, ?_⟩
    rw [w1.str.1, w2.str.1]
    have z := k _ H F re Ex.refl (.bl _)
    simpa using z
  · cases e
    refine .inl ⟨by rw [w1.bool, w2.bool]; rfl, ?_⟩
    rw [w1.bool, w2.bool]
    have z := k _ H F re Ex.refl (.bl _)
    simpa using z
  · split at e
    · cases e
      rename_i h
      exact .inr ⟨_, _, w1.dp re (lay_shaped h.1), w2.dp re (lay_shaped h.2), h.1, h.2, k _ H F re Ex.refl (.bl _)⟩
    · cases e
/-- a comparison's rule with its sense: the pair that me_cmp, mt_cmp and the chains take -/
structure CmpOk (X : Cx) (b : Bool) (op : CmpOp) (f : D → D → Option D) : Prop where
  ex : ∃ r, OpR X (compareOp op) r ∧ Ok2 X b f r
theorem c_lt (hu : X.A.units + 65 < cLine) : CmpOk X b .Lt ltD := ⟨_, op_ltA hu, ok_lt⟩
theorem c_le (hu : X.A.units + 65 < cLine) : CmpOk X b .LtE leD := ⟨_, op_leA hu, ok_le⟩
theorem c_gt (hu : X.A.units + 65 < cLine) : CmpOk X b .Gt gtD := ⟨_, op_gtA hu, ok_gt⟩
theorem c_ge (hu : X.A.units + 65 < cLine) : CmpOk X b .GtE geD := ⟨_, op_geA hu, ok_ge⟩
theorem c_eq (hu : X.A.units + 65 < cLine) : CmpOk X b .Eq eqD := ⟨_, op_eq.or (op_eqD (by omega)), ok_eq⟩
theorem c_ne (hu : X.A.units + 65 < cLine) : CmpOk X b .NotEq neD := ⟨_, op_ne.or (op_neD (by omega)), ok_ne⟩
theorem me_c {op : CmpOp} {f : D → D → Option D} (o : CmpOk X b op f) (ha : ME X b a ma) (hc : ME X b c mc) (hm : behindInMarks op c = false := by first | exact nomark _ | rfl) : ME X b' (.Compare a [op] [c] pos) (sOp f ma mc) := by
  obtain ⟨r, h1, h2⟩ := o.ex
  exact me_cmp h1 h2 hm ha hc
theorem mt_c {op : CmpOp} {f : D → D → Option D} (o : CmpOk X b op f) (ha : ME X b a ma) (hc : ME X b c mc) (hm : behindInMarks op c = false := by first | exact nomark _ | rfl) : MT X (.Compare a [op] [c] pos) (sTB (sOp f ma mc)) := by
  obtain ⟨r, h1, h2⟩ := o.ex
  exact mt_cmp h1 h2 hm ha hc
/-! in -/
def inB (x z : D) : Option Bool := match x, z with
  | .str s, .str t => some (!(Builtin.Str.occurrences t s 0 t.length 1).isEmpty)
  | x, .list ds => if SeqAt.shaped x = true ∧ SeqAt.shaped (.list ds) = true then some (ds.any fun z => PyData.eqv z x) else none
  | x, .tuple ds => if SeqAt.shaped x = true ∧ SeqAt.shaped (.tuple ds) = true then some (ds.any fun z => PyData.eqv z x) else none
  | _, _ => none
def inD (x z : D) : Option D := (inB x z).map .bool
def ninD (x z : D) : Option D := (inB x z).map fun c => .bool (!c)
def rInT (K : Fg) (n : Bool) : R2 := fun x z H Q => ∃ d ds, Dp K H x d ∧ Dp K H z (.tuple ds) ∧ SeqAt.shaped d = true ∧ SeqAt.shaped (.tuple ds) = true ∧ Q (.bl (if n then !(ds.any fun z => PyData.eqv z d) else ds.any fun z => PyData.eqv z d)) H
theorem op_inT (hu : X.A.units + 65 < cLine) : OpR X (compareOp .In) (rInT X.G false) := by
  intro pins s σ H x y v u Q I rx ry h
  obtain ⟨d, ds, hd, he, sd, se, q⟩ := h
  obtain ⟨as, r1⟩ := Dp.reads I d x v hd rx
  obtain ⟨bs, r2⟩ := Dp.reads I (.tuple ds) y u he ry
  exact SeqAt.in_tuple_reads r2 r1 (SeqAt.canLay_of_shaped se) (SeqAt.canLay_of_shaped sd) (PyProof.Rows.room_in_shaped sd hu) ⟨.bl _, H, I, rfl, q⟩
theorem op_ninT (hu : X.A.units + 65 < cLine) : OpR X (compareOp .NotIn) (rInT X.G true) := by
  intro pins s σ H x y v u Q I rx ry h
  obtain ⟨d, ds, hd, he, sd, se, q⟩ := h
  obtain ⟨as, r1⟩ := Dp.reads I d x v hd rx
  obtain ⟨bs, r2⟩ := Dp.reads I (.tuple ds) y u he ry
  exact SeqAt.notIn_tuple_reads r2 r1 (SeqAt.canLay_of_shaped se) (SeqAt.canLay_of_shaped sd) (PyProof.Rows.room_in_shaped sd hu) ⟨.bl _, H, I, rfl, q⟩
theorem c_in (hu : X.A.units + 65 < cLine) : CmpOk X b .In inD := by
  refine ⟨_, op_in_str.or ((op_inD hu).or (op_inT hu)), ?_⟩
  intro y dr F env σ H d1 d2 d v1 v2 Q re w1 w2 e k
  unfold inD inB at e
  split at e
  · cases e
    exact .inl ⟨_, _, w1.str.1, w2.str.1, k _ H F re Ex.refl (.bl _)⟩
  · split at e
    · cases e
      rename_i h
      exact .inr (.inl ⟨_, _, w1.dp re (lay_shaped h.1), w2.dp re (lay_shaped h.2), h.1, h.2, k _ H F re Ex.refl (.bl _)⟩)
    · cases e
  · split at e
    · cases e
      rename_i h
      exact .inr (.inr ⟨_, _, w1.dp re (lay_shaped h.1), w2.dp re (lay_shaped h.2), h.1, h.2, k _ H F re Ex.refl (.bl _)⟩)
    · cases e
  · cases e
theorem c_nin (hu : X.A.units + 65 < cLine) : CmpOk X b .NotIn ninD := by
  refine ⟨_, op_notin_str.or ((op_notInD hu).or (op_ninT hu)), ?_⟩
  intro y dr F env σ H d1 d2 d v1 v2 Q re w1 w2 e k
  unfold ninD inB at e
  split at e
  · cases e
    exact .inl ⟨_, _, w1.str.1, w2.str.1, k _ H F re Ex.refl (.bl _)⟩
  · split at e
    · cases e
      rename_i h
      exact .inr (.inl ⟨_, _, w1.dp re (lay_shaped h.1), w2.dp re (lay_shaped h.2), h.1, h.2, k _ H F re Ex.refl (.bl _)⟩)
    · cases e
  · split at e
    · cases e
      rename_i h
      exact .inr (.inr ⟨_, _, w1.dp re (lay_shaped h.1), w2.dp re (lay_shaped h.2), h.1, h.2, k _ H F re Ex.refl (.bl _)⟩)
    · cases e
  · cases e
/-! is None -/
theorem vr_ref {K : Fg} {y : Cy} {dr : Option Addr} {F H : Hp} {env : En} {σ : L2.St} {d : D} {v : V} (re : Re K y dr F env σ H) {i : Nat} {s : Sl} (e1 : env[i]? = some s) (e2 : s.dat = some d) (e3 : σ[i]? = some (some v)) : ∃ a, v = .ref a := by
  obtain ⟨o, q1, q2⟩ := re.get e1
  have hw : s.own = true := by cases s <;> first | rfl | cases e2
  obtain ⟨a, ea, _⟩ := q2.there hw
  rw [e3] at q1; cases q1
  cases ea
  exact ⟨a, rfl⟩
theorem vr_none {K : Fg} {y : Cy} {dr : Option Addr} {F H : Hp} {env : En} {σ : L2.St} {d : D} {v : V} (re : Re K y dr F env σ H) (w : Vr K b F env σ d v) : decide (v = .non) = isN d := by
  rcases w with w | ⟨_, i, s, e1, e2, e3⟩
  · cases w <;> rfl
  · obtain ⟨a, rfl⟩ := vr_ref re e1 e2 e3
    cases s <;> cases e2 <;> rfl
def isD (x z : D) : Option D := match z with
  | .none => some (.bool (isN x))
  | .bool j => match x with
    | .bool i => some (.bool (decide (i = j)))
    | _ => none
  | _ => none
def isnD (x z : D) : Option D := match z with
  | .none => some (.bool (!isN x))
  | .bool j => match x with
    | .bool i => some (.bool (!decide (i = j)))
    | _ => none
  | _ => none
theorem c_is : CmpOk X b .Is isD := by
  refine ⟨_, op_isN.or op_is_bl, ?_⟩
  intro y dr F env σ H d1 d2 d v1 v2 Q re w1 w2 e k
  unfold isD at e
  split at e
  · cases e
    refine .inl ⟨w2.none, ?_⟩
    rw [vr_none re w1]
    exact k _ H F re Ex.refl (.bl _)
  · split at e
    · cases e
      exact .inr ⟨_, _, w1.bool, w2.bool, k _ H F re Ex.refl (.bl _)⟩
    · cases e
  · cases e
theorem c_isn : CmpOk X b .IsNot isnD := by
  refine ⟨_, op_notN.or op_isnot_bl, ?_⟩
  intro y dr F env σ H d1 d2 d v1 v2 Q re w1 w2 e k
  unfold isnD at e
  split at e
  · cases e
    refine .inl ⟨w2.none, ?_⟩
    rw [vr_none re w1]
    exact k _ H F re Ex.refl (.bl _)
  · split at e
    · cases e
      exact .inr ⟨_, _, w1.bool, w2.bool, k _ H F re Ex.refl (.bl _)⟩
    · cases e
  · cases e
/-! a chain of two -/
def sChain (f g : D → D → Option D) (ma mc me : SE) : SE := fun env Q => ma env fun x => mc env fun z => ob (f x z) fun t => match t with
  | .bool true => me env fun w => ob (g z w) Q
  | .bool false => Q (.bool false)
  | _ => False
theorem chain_mono {f g : D → D → Option D} (ha : ME X b a ma) (hc : ME X b c mc) (he : ME X b e me) (env : En) (P Q : D → Prop) (k : ∀ d, P d → Q d) (h : sChain f g ma mc me env P) : sChain f g ma mc me env Q := by
  refine ha.mono _ _ _ (fun _ h1 => hc.mono _ _ _ (fun _ h2 => ob_mono (fun t h3 => ?_) h2) h1) h
  split at h3
  · exact he.mono _ _ _ (fun _ h4 => ob_mono k h4) h3
  · exact k _ h3
  · exact h3
theorem chain_red {f g : D → D → Option D} {r r' : R2} (ok : Ok2 X b f r) (ok' : Ok2 X b g r') (ha : ME X b a ma) (hc : ME X b c mc) (he : ME X b e me) {σ : L2.St} {H : Hp} {Q : VK} (h : lE X.G b' (sChain f g ma mc me) σ H Q) : tChain r r' (lE X.G b ma) (lE X.G b mc) (lE X.G b me) σ H Q := by
  obtain ⟨y, dr, F, env, re, hm⟩ := h
  refine ⟨y, dr, F, env, re, ha.mono _ _ _ (fun d1 h1 v1 H1 F1 r1 s1 w1 => ?_) hm⟩
  refine ⟨y, dr, F1, env, r1, hc.mono _ _ _ (fun d2 h2 v2 H2 F2 r2 s2 w2 => ?_) h1⟩
  cases q : f d1 d2 with
  | none => rw [q] at h2; exact h2.elim
  | some d =>
    rw [q] at h2
    refine ok y dr F2 env σ H2 d1 d2 d v1 v2 _ r2 (w1.mono s2) w2 q fun v H3 F3 r3 s3 w3 => ?_
    cases d with
    | bool t =>
      cases w3
      refine ⟨t, rfl, ?_⟩
      cases t with
      | true =>
        rw [if_pos rfl]
        refine ⟨y, dr, F3, env, r3, he.mono _ _ _ (fun d4 h4 v4 H4 F4 r4 s4 w4 => ?_) (show me env _ from h2)⟩
        cases q4 : g d2 d4 with
        | none => rw [q4] at h4; exact h4.elim
        | some d5 =>
          rw [q4] at h4
          exact ok' y dr F4 env σ H4 d2 d4 d5 v2 v4 Q r4 (w2.mono (s3.trans s4)) w4 q4 fun v H' F' r5 s5 w5 => h4 v H' F' r5 ((((s1.trans s2).trans s3).trans s4).trans s5) (.inl w5)
      | false =>
        rw [if_neg Bool.false_ne_true]
        exact (show _ from h2) _ H3 F3 r3 ((s1.trans s2).trans s3) (.inl (.bl _))
    | _ => exact h2.elim
theorem me_ch {op op' : CmpOp} {f g : D → D → Option D} (o : CmpOk X b op f) (o' : CmpOk X b op' g) (ha : ME X b a ma) (hc : ME X b c mc) (he : ME X b e me) (hm : lastMarks [op, op'] [c, e] = false := by with_unfolding_all rfl) : ME X b' (.Compare a [op, op'] [c, e] pos) (sChain f g ma mc me) := by
  obtain ⟨r, h1, h2⟩ := o.ex
  obtain ⟨r', h1', h2'⟩ := o'.ex
  exact ⟨⟨fun pins s σ H Q I h => (pe_chain h1 h1' ha.run hc.run he.run hm).run pins s σ H Q I (chain_red h2 h2' ha hc he h)⟩, chain_mono ha hc he⟩
theorem mt_ch {op op' : CmpOp} {f g : D → D → Option D} (o : CmpOk X b op f) (o' : CmpOk X b op' g) (ha : ME X b a ma) (hc : ME X b c mc) (he : ME X b e me) (hm : lastMarks [op, op'] [c, e] = false := by with_unfolding_all rfl) : MT X (.Compare a [op, op'] [c, e] pos) (sTB (sChain f g ma mc me)) := by
  obtain ⟨r, h1, h2⟩ := o.ex
  obtain ⟨r', h1', h2'⟩ := o'.ex
  exact ⟨⟨fun pins s σ H Q I h => (pt_chain h1 h1' ha.run hc.run he.run hm).run pins s σ H Q I (chain_red h2 h2' ha hc he (tb_red (chain_mono ha hc he) h))⟩, tb_mono (me_ch (b' := b) (pos := pos) o o' ha hc he hm)⟩
end
/-! ### truth -/
def tru : D → Option Bool
  | .none => some false
  | .bool c => some c
  | .int i => some (i != 0)
  | .str x => some ((x.length : Int) != 0)
  | .list xs => some (!xs.isEmpty)
  | .tuple xs => some (!xs.isEmpty)
  | .dict _ => none
def obB (o : Option Bool) (Q : Bool → Prop) : Prop := match o with
  | some d => Q d
  | none => False
def sTru (m : SE) : SB := fun env Q => m env fun d => obB (tru d) Q
section
variable {X : Cx} {b b' : Bool} {a c e : Expr} {ma mc me : SE} {ta tc : SB} {pos : Pos} {rest : List Expr}
theorem rvs_empty {K : Fg} {F : Hp} {xs : List D} {vs : List V} (r : Rvs K F xs vs) : vs.isEmpty = xs.isEmpty := by cases r <;> rfl
theorem tru_of {K : Fg} {y : Cy} {dr : Option Addr} {F H : Hp} {env : En} {σ : L2.St} {d : D} {v : V} {k : Bool} (re : Re K y dr F env σ H) (w : Vr K b F env σ d v) (h : tru d = some k) : TruV K v H k := by
  cases d with
  | none => cases h; rw [w.none]; rfl
  | bool c => cases h; rw [w.bool]; rfl
  | int c => cases h; rw [w.int]; rfl
  | str c => cases h; rw [w.str.1]; exact ⟨w.str.2, rfl⟩
  | list xs => cases h; obtain ⟨a, vs, rfl, h1, _, r⟩ := w.list re; exact .inl ⟨vs, SqL.of h1, by rw [rvs_empty r]⟩
  | tuple xs => cases h; obtain ⟨a, vs, rfl, h1, _, r⟩ := w.tuple re; exact .inr (.inl ⟨vs, re_tuple re h1, by rw [rvs_empty r]⟩)
  | dict _ => cases h
theorem obB_mono {o : Option Bool} {P Q : Bool → Prop} (k : ∀ d, P d → Q d) (h : obB o P) : obB o Q := by
  cases o with
  | none => exact h
  | some d => exact k d h
theorem mt_tru (ha : ME X true a ma) (he : ∀ whole, isTrue a X.env whole = (do let v ← whole; standAt a.pos; holding [v] (truthy v)) := by intro _; rfl) : MT X a (sTru ma) := by
  refine ⟨⟨fun pins s σ H Q I h => (pt_truth ha.run he).run pins s σ H Q I ?_⟩, fun env P Q k h => ha.mono _ _ _ (fun _ h1 => obB_mono k h1) h⟩
  obtain ⟨y, dr, F, env, re, hm⟩ := h
  refine ⟨y, dr, F, env, re, ha.mono _ _ _ (fun d hd v H' F' r1 s1 w => ?_) hm⟩
  cases q : tru d with
  | none => rw [q] at hd; exact hd.elim
  | some k =>
    rw [q] at hd
    exact ⟨k, tru_of r1 w q, hd H' F' r1 s1⟩
def sAnd (ta tc : SB) : SB := fun env Q => ta env fun k => if k = true then tc env Q else Q false
def sOr (ta tc : SB) : SB := fun env Q => ta env fun k => if k = true then Q true else tc env Q
def sNot (ta : SB) : SB := fun env Q => ta env fun k => Q (!k)
structure MW (X : Cx) (e : Expr) (m : SB) : Prop where
  run : PW X e (lT X.G m)
  mono : ∀ env (P Q : Bool → Prop), (∀ d, P d → Q d) → m env P → m env Q
theorem mt_w (h : MW X a ta) : MT X a ta := ⟨h.run.pt, h.mono⟩
theorem mw_and1 (ha : MT X a ta) : MW X (.BoolOp .And [a] pos) ta := ⟨pw_and1 ha.run, ha.mono⟩
theorem mw_or1 (ha : MT X a ta) : MW X (.BoolOp .Or [a] pos) ta := ⟨pw_or1 ha.run, ha.mono⟩
theorem mw_and (ha : MT X a ta) (hc : MW X (.BoolOp .And (c :: rest) pos) tc) : MW X (.BoolOp .And (a :: c :: rest) pos) (sAnd ta tc) := by
  refine ⟨⟨fun wh pins s σ H Q I h => (pw_and ha.run hc.run).run wh pins s σ H Q I ?_⟩, fun env P Q k h => ha.mono _ _ _ (fun d h1 => ?_) h⟩
  · obtain ⟨y, dr, F, env, re, hm⟩ := h
    refine ⟨y, dr, F, env, re, ha.mono _ _ _ (fun d hd H' F' r1 s1 => ?_) hm⟩
    cases d with
    | true => rw [if_pos rfl] at hd ⊢; exact ⟨y, dr, F', env, r1, hc.mono _ _ _ (fun d2 h2 H2 F2 r2 s2 => h2 H2 F2 r2 (s1.trans s2)) hd⟩
    | false => rw [if_neg Bool.false_ne_true] at hd ⊢; exact hd H' F' r1 s1
  · cases d with
    | true => rw [if_pos rfl] at h1 ⊢; exact hc.mono _ _ _ k h1
    | false => rw [if_neg Bool.false_ne_true] at h1 ⊢; exact k _ h1
theorem mw_or (ha : MT X a ta) (hc : MW X (.BoolOp .Or (c :: rest) pos) tc) : MW X (.BoolOp .Or (a :: c :: rest) pos) (sOr ta tc) := by
  refine ⟨⟨fun wh pins s σ H Q I h => (pw_or ha.run hc.run).run wh pins s σ H Q I ?_⟩, fun env P Q k h => ha.mono _ _ _ (fun d h1 => ?_) h⟩
  · obtain ⟨y, dr, F, env, re, hm⟩ := h
    refine ⟨y, dr, F, env, re, ha.mono _ _ _ (fun d hd H' F' r1 s1 => ?_) hm⟩
    cases d with
    | false => rw [if_neg Bool.false_ne_true] at hd ⊢; exact ⟨y, dr, F', env, r1, hc.mono _ _ _ (fun d2 h2 H2 F2 r2 s2 => h2 H2 F2 r2 (s1.trans s2)) hd⟩
    | true => rw [if_pos rfl] at hd ⊢; exact hd H' F' r1 s1
  · cases d with
    | false => rw [if_neg Bool.false_ne_true] at h1 ⊢; exact hc.mono _ _ _ k h1
    | true => rw [if_pos rfl] at h1 ⊢; exact k _ h1
theorem mt_not (ha : MT X a ta) : MT X (.UnaryOp .Not a pos) (sNot ta) := by
  refine ⟨⟨fun pins s σ H Q I h => (pt_not ha.run).run pins s σ H Q I ?_⟩, fun env P Q k h => ha.mono _ _ _ (fun d h1 => k _ h1) h⟩
  obtain ⟨y, dr, F, env, re, hm⟩ := h
  exact ⟨y, dr, F, env, re, ha.mono _ _ _ (fun d hd H' F' r1 s1 => hd H' F' r1 s1) hm⟩
/-! as values: by truth -/
def sAndV (ma mc : SE) : SE := fun env Q => ma env fun x => obB (tru x) fun k => if k = true then mc env Q else Q x
def sOrV (ma mc : SE) : SE := fun env Q => ma env fun x => obB (tru x) fun k => if k = true then Q x else mc env Q
def sNotV (ma : SE) : SE := fun env Q => ma env fun x => obB (tru x) fun k => Q (.bool (!k))
theorem me_one {op} (h : ME X b a ma) : ME X b (.BoolOp op [a] pos) ma := ⟨pe_one h.run, h.mono⟩
theorem me_and (ha : ME X b a ma) (hc : ME X b (.BoolOp .And (c :: rest) pos) mc) : ME X b (.BoolOp .And (a :: c :: rest) pos) (sAndV ma mc) := by
  refine ⟨⟨fun pins s σ H Q I h => (pe_andT ha.run hc.run).run pins s σ H Q I ?_⟩, fun env P Q k h => ha.mono _ _ _ (fun d h1 => obB_mono (fun t ht => ?_) h1) h⟩
  · obtain ⟨y, dr, F, env, re, hm⟩ := h
    refine ⟨y, dr, F, env, re, ha.mono _ _ _ (fun d hd v H' F' r1 s1 w => ?_) hm⟩
    cases q : tru d with
    | none => rw [q] at hd; exact hd.elim
    | some k =>
      rw [q] at hd
      refine ⟨k, tru_of r1 w q, ?_⟩
      cases k with
      | true => rw [if_pos rfl]; exact ⟨y, dr, F', env, r1, hc.mono _ _ _ (fun d2 h2 v2 H2 F2 r2 s2 w2 => h2 v2 H2 F2 r2 (s1.trans s2) w2) (show mc env _ from hd)⟩
      | false => rw [if_neg Bool.false_ne_true]; exact (show _ from hd) v H' F' r1 s1 w
  · cases t with
    | true => rw [if_pos rfl] at ht ⊢; exact hc.mono _ _ _ k ht
    | false => rw [if_neg Bool.false_ne_true] at ht ⊢; exact k _ ht
theorem me_or (ha : ME X b a ma) (hc : ME X b (.BoolOp .Or (c :: rest) pos) mc) : ME X b (.BoolOp .Or (a :: c :: rest) pos) (sOrV ma mc) := by
  refine ⟨⟨fun pins s σ H Q I h => (pe_orT ha.run hc.run).run pins s σ H Q I ?_⟩, fun env P Q k h => ha.mono _ _ _ (fun d h1 => obB_mono (fun t ht => ?_) h1) h⟩
  · obtain ⟨y, dr, F, env, re, hm⟩ := h
    refine ⟨y, dr, F, env, re, ha.mono _ _ _ (fun d hd v H' F' r1 s1 w => ?_) hm⟩
    cases q : tru d with
    | none => rw [q] at hd; exact hd.elim
    | some k =>
      rw [q] at hd
      refine ⟨k, tru_of r1 w q, ?_⟩
      cases k with
      | false => rw [if_neg Bool.false_ne_true]; exact ⟨y, dr, F', env, r1, hc.mono _ _ _ (fun d2 h2 v2 H2 F2 r2 s2 w2 => h2 v2 H2 F2 r2 (s1.trans s2) w2) (show mc env _ from hd)⟩
      | true => rw [if_pos rfl]; exact (show _ from hd) v H' F' r1 s1 w
  · cases t with
    | false => rw [if_neg Bool.false_ne_true] at ht ⊢; exact hc.mono _ _ _ k ht
    | true => rw [if_pos rfl] at ht ⊢; exact k _ ht
theorem me_not (ha : ME X true a ma) : ME X b (.UnaryOp .Not a pos) (sNotV ma) := by
  refine ⟨⟨fun pins s σ H Q I h => (pe_notT ha.run).run pins s σ H Q I ?_⟩, fun env P Q k h => ha.mono _ _ _ (fun d h1 => obB_mono (fun t ht => k _ ht) h1) h⟩
  obtain ⟨y, dr, F, env, re, hm⟩ := h
  refine ⟨y, dr, F, env, re, ha.mono _ _ _ (fun d hd v H' F' r1 s1 w => ?_) hm⟩
  cases q : tru d with
  | none => rw [q] at hd; exact hd.elim
  | some k =>
    rw [q] at hd
    exact ⟨k, tru_of r1 w q, (show _ from hd) _ H' F' r1 s1 (.inl (.bl _))⟩
def sIf (t : SB) (ma mc : SE) : SE := fun env Q => t env fun k => if k = true then ma env Q else mc env Q
theorem me_if {t : Expr} {tt : SB} (ht : MT X t tt) (ha : ME X b a ma) (hc : ME X b c mc) : ME X b (.IfExp t a c pos) (sIf tt ma mc) := by
  refine ⟨⟨fun pins s σ H Q I h => (pe_ifExp ht.run ha.run hc.run).run pins s σ H Q I ?_⟩, fun env P Q k h => ht.mono _ _ _ (fun d h1 => ?_) h⟩
  · obtain ⟨y, dr, F, env, re, hm⟩ := h
    refine ⟨y, dr, F, env, re, ht.mono _ _ _ (fun d hd H' F' r1 s1 => ?_) hm⟩
    cases d with
    | true => rw [if_pos rfl] at hd ⊢; exact ⟨y, dr, F', env, r1, ha.mono _ _ _ (fun d2 h2 v2 H2 F2 r2 s2 w2 => h2 v2 H2 F2 r2 (s1.trans s2) w2) hd⟩
    | false => rw [if_neg Bool.false_ne_true] at hd ⊢; exact ⟨y, dr, F', env, r1, hc.mono _ _ _ (fun d2 h2 v2 H2 F2 r2 s2 w2 => h2 v2 H2 F2 r2 (s1.trans s2) w2) hd⟩
  · cases d with
    | true => rw [if_pos rfl] at h1 ⊢; exact ha.mono _ _ _ k h1
    | false => rw [if_neg Bool.false_ne_true] at h1 ⊢; exact hc.mono _ _ _ k h1
/-! ### rows of values, tuples, lists -/
def sNil : SA := fun _ Q => Q []
def sCons (m : SE) (r : SA) : SA := fun env Q => m env fun d => r env fun ds => Q (d :: ds)
theorem ma_nil : MA X b [] sNil := by
  refine ⟨⟨fun pos pins s σ H Q I h => pa_nil.run pos pins s σ H Q I ?_⟩, fun env P Q k h => k _ h, fun env P h => ⟨rfl, h⟩⟩
  obtain ⟨y, dr, F, env, re, hm⟩ := h
  exact hm [] H F re Ex.refl .nil
theorem paired_mono {α β : Type} {F G : α → β → Prop} (h : ∀ a b, F a b → G a b) : ∀ {l : List α} {m : List β}, Paired F l m → Paired G l m
  | _, _, .nil => .nil
  | _, _, .cons a b => .cons (h _ _ a) (paired_mono h b)
theorem ma_cons {es : List Expr} {mr : SA} (ha : ME X b e me) (hr : MA X b es mr) (hs : starEach (e :: es) X.env = (false, eval e X.env) :: starEach es X.env := by rfl) : MA X b (e :: es) (sCons me mr) := by
  refine ⟨⟨fun pos pins s σ H Q I h => (pa_cons ha.run hr.run hs).run pos pins s σ H Q I ?_⟩, fun env P Q k h => ha.mono _ _ _ (fun d h1 => hr.mono _ _ _ (fun ds h2 => k _ h2) h1) h,
    fun env P h => ha.mono _ _ _ (fun d h1 => hr.mono _ _ _ (fun ds h2 => ⟨congrArg (· + 1) h2.1, h2.2⟩) (hr.len _ _ h1)) h⟩
  obtain ⟨y, dr, F, env, re, hm⟩ := h
  refine ⟨y, dr, F, env, re, ha.mono _ _ _ (fun d hd v H1 F1 r1 s1 w1 => ?_) hm⟩
  exact ⟨y, dr, F1, env, r1, hr.mono _ _ _ (fun ds hds vs H2 F2 r2 s2 w2 => hds (v :: vs) H2 F2 r2 (s1.trans s2) (.cons (w1.mono s2) w2)) hd⟩
theorem rvs_of {K : Fg} {F : Hp} {env : En} {σ : L2.St} : ∀ {ds : List D} {vs : List V}, Paired (Vr K false F env σ) ds vs → Rvs K F ds vs
  | _, _, .nil => .nil
  | _, _, .cons a b => .cons a.rv (rvs_of b)
def sTup (m : SA) : SE := fun env Q => m env fun ds => Q (.tuple ds)
theorem me_tup {es : List Expr} {m : SA} {x1} (h : MA X false es m) (hl : Nat.ble es.length 1000 = true := by rfl) : ME X b (.Tuple es x1 pos) (sTup m) := by
  refine ⟨⟨fun pins s σ H Q I hq => (pe_tupP h.run).run pins s σ H Q I ?_⟩, fun env P Q k hp => h.mono _ _ _ (fun d h1 => k _ h1) hp⟩
  obtain ⟨y, dr, F, env, re, hm⟩ := hq
  refine ⟨y, dr, F, env, re, h.mono _ _ _ (fun ds hd vs H1 F1 r1 s1 w1 => ?_) (h.len _ _ hm)⟩
  have r := rvs_of w1
  have hz : ds.length ≤ sizeLine := by have := Nat.le_of_ble_eq_true hl; rw [hd.1, sizeLine_eq]; omega
  refine ⟨by rw [← r.length]; exact hz, fun p o t hp => ?_⟩
  exact hd.2 _ _ _ (r1.laid hp) (s1.trans (r1.ex hp)) (.inl (Rv.tupNew (r1.nF hp) t hz r))
end
end Mi

namespace Mi
open PySem PySem.Spec L2
/-! ### new lists -/
/-- the object at p is nobody's yet -/
structure Free (y : Cy) (dr : Option Addr) (F : Hp) (env : En) (σ : L2.St) (p : Addr) : Prop where
  nF : F p = none
  nH : y.H0 p = none
  nd : some p ≠ dr
  no : ∀ (i : Nat) (s : Sl), env[i]? = some s → s.own = true → σ[i]? ≠ some (some (.ref p))
section
variable {K : Fg} {y : Cy} {dr : Option Addr} {F H : Hp} {env : En} {σ : L2.St} {p : Addr} {o : HO}
theorem Re.free (re : Re K y dr F env σ H) (hp : H p = none) : Free y dr F env σ p := by
  refine ⟨re.nF hp, ?_, ?_, fun i s h1 h2 h3 => ?_⟩
  · cases q : y.H0 p with
    | none => rfl
    | some u => exact absurd hp (re.rf.dom p (by rw [q]; simp))
  · intro e
    obtain ⟨_, _, _, _, _, _, q, _⟩ := re.rf.drw p e.symm
    rw [hp] at q; cases q
  · obtain ⟨a, e1, e2, _⟩ := (re.slot i s _ h1 h3).there h2
    cases e1
    exact e2 hp
theorem Re.freeze (re : Re K y dr F env σ H) (fr : Free y dr F env σ p) (hp : H p = some o) : Re K y dr (upd F p o) env σ H := by
  have sF : Same F (upd F p o) := upd_grow fr.nF
  refine ⟨⟨fun b u e => ?_, re.rf.sup.trans sF, fun b hb => ?_, re.rf.gr, re.rf.dom, fun b hb => ?_, re.rf.drs, re.rf.drn⟩, re.len, fun i s o' h1 h2 => (re.slot i s o' h1 h2).keep sF fun a ha w => ?_, re.sep⟩
  · by_cases hbp : b = p
    · subst hbp; rw [upd_same] at e; cases e; exact hp
    · rw [upd_ne hbp] at e; exact re.rf.sub _ _ e
  · by_cases hbp : b = p
    · subst hbp; exact .inr fr.nH
    · rw [upd_ne hbp] at hb; exact re.rf.new b hb
  · obtain ⟨h1, h2⟩ := re.rf.drw b hb
    have hbp : b ≠ p := fun e => fr.nd (by rw [← e]; exact hb.symm)
    exact ⟨by rw [upd_ne hbp]; exact h1, h2.mono sF⟩
  · have ne : a ≠ p := fun e => fr.no i s h1 w (by rw [h2, ha, e])
    obtain ⟨c, e1, _, e3, e4, _⟩ := (re.slot i s o' h1 h2).there w
    rw [ha] at e1; cases e1
    exact ⟨rfl, by rw [upd_ne ne]; exact e3, e4⟩
end
abbrev SL := En → (List D → Prop) → Prop
def lF (K : Fg) (m : SL) : TE := fun σ H Q => ∃ y dr F env, Re K y dr F env σ H ∧ m env fun xs => ∀ p vs H' F', Re K y dr F' env σ H' → Ex dr F H F' H' → H' p = some (.lst vs) → Free y dr F' env σ p → Rvs K F' xs vs → xs.length ≤ sizeLine → Q (.ref p) H'
structure MF (X : Cx) (e : Expr) (m : SL) : Prop where
  run : PE X e (lF X.G m)
  mono : ∀ env (P Q : List D → Prop), (∀ d, P d → Q d) → m env P → m env Q
def sFr (m : SL) : SE := fun env Q => m env fun xs => Q (.list xs)
section
variable {X : Cx} {b b' : Bool} {a c e : Expr} {ma mc me : SE} {pos : Pos}
/-- a new list that is never changed -/
theorem me_f {m : SL} (h : MF X e m) : ME X b e (sFr m) := by
  refine ⟨⟨fun pins s σ H Q I hq => h.run.run pins s σ H Q I ?_⟩, fun env P Q k hp => h.mono _ _ _ (fun d h1 => k _ h1) hp⟩
  obtain ⟨y, dr, F, env, re, hm⟩ := hq
  refine ⟨y, dr, F, env, re, h.mono _ _ _ (fun xs hd p vs H' F' r1 s1 hp fr rv hz => ?_) hm⟩
  exact hd _ H' _ (r1.freeze fr hp) (s1.trans (Ex.fz fr.nF)) (.inl (Rv.lstNew fr.nF hz rv))
/-- the state behind a new list -/
theorem new_lst {K : Fg} {y : Cy} {dr : Option Addr} {F H : Hp} {env : En} {σ : L2.St} {p : Addr} {vs : List V} {xs : List D} {Q : VK} {F0 H0 : Hp} (r1 : Re K y dr F env σ H) (s1 : Ex dr F0 H0 F H) (hp : H p = none) (rv : Rvs K F xs vs) (hz : xs.length ≤ sizeLine)
    (k : ∀ p vs H' F', Re K y dr F' env σ H' → Ex dr F0 H0 F' H' → H' p = some (.lst vs) → Free y dr F' env σ p → Rvs K F' xs vs → xs.length ≤ sizeLine → Q (.ref p) H') : Q (.ref p) (upd H p (.lst vs)) :=
  k p vs _ F (r1.grown hp) (s1.trans (Ex.grown hp)) upd_same (r1.free hp) rv hz
def sItems (m : SA) : SL := fun env Q => m env Q
theorem mf_lst {es : List Expr} {m : SA} (h : MA X false es m) (hl : Nat.ble es.length 1000 = true := by rfl) : MF X (.List es pos) (sItems m) := by
  refine ⟨⟨fun pins s σ H Q I hq => (pe_lst h.run).run pins s σ H Q I ?_⟩, fun env P Q k hp => h.mono _ _ _ (fun d h1 => k _ h1) hp⟩
  obtain ⟨y, dr, F, env, re, hm⟩ := hq
  refine ⟨y, dr, F, env, re, h.mono _ _ _ (fun ds hd vs H1 F1 r1 s1 w1 => ?_) (h.len _ _ hm)⟩
  have r := rvs_of w1
  have hz : ds.length ≤ sizeLine := by have := Nat.le_of_ble_eq_true hl; rw [hd.1, sizeLine_eq]; omega
  exact ⟨by rw [← r.length]; exact hz, fun p hp => new_lst r1 s1 hp r hz hd.2⟩
/-! ### subscripts -/
def ixD (x i : D) : Option D := match x, i with
  | .list xs, .int i => atI xs i
  | .tuple xs, .int i => atI xs i
  | .str x, .int i => (atI x.cps.toList i).map fun c => .str ⟨#[c]⟩
  | _, _ => none
theorem rvs_at {K : Fg} {F : Hp} {xs : List D} {vs : List V} {i : Int} {d : D} (r : Rvs K F xs vs) (h : atI xs i = some d) : ∃ v, atI vs i = some v ∧ Rv K F d v := by
  unfold atI at h ⊢
  rw [← r.length]
  cases q : ixN xs.length i with
  | none => rw [q] at h; cases h
  | some j =>
    rw [q] at h
    exact r.get h
theorem ok_ix : Ok2 X b ixD (rIx X.G) := by
  intro y dr F env σ H d1 d2 d v1 v2 Q re w1 w2 e k
  unfold ixD at e
  split at e
  · obtain ⟨a1, vs, rfl, h1, z1, r1⟩ := w1.list re
    obtain ⟨v, hv, rv⟩ := rvs_at r1 e
    exact .inl ⟨a1, vs, _, v, rfl, w2.int, SqL.of h1, hv, k _ H F re Ex.refl rv⟩
  · obtain ⟨a1, vs, rfl, h1, z1, r1⟩ := w1.tuple re
    obtain ⟨v, hv, rv⟩ := rvs_at r1 e
    exact .inr (.inl ⟨a1, vs, _, v, rfl, w2.int, re_tuple re h1, hv, k _ H F re Ex.refl rv⟩)
  · rename_i x i
    cases q : atI x.cps.toList i with
    | none => rw [q] at e; cases e
    | some c =>
      rw [q] at e
      cases e
      exact .inr (.inr ⟨x, i, c, w1.str.1, w2.int, w1.str.2, q, k _ H F re Ex.refl (.str _ (by show 1 ≤ sizeLine; rw [sizeLine_eq]; decide))⟩)
  · cases e
theorem me_ix (ha : ME X true a ma) (hc : ME X true c mc) (hs : PlainIx c := by exact fun _ _ => rfl) : ME X b' (.Subscript a c pos) (sOp ixD ma mc) :=
  ⟨⟨fun pins s σ H Q I h => (pe_ix ix_seq ha.run hc.run hs).run pins s σ H Q I (op_red ok_ix ha hc h)⟩, op_mono ha hc⟩
/-! slices -/
def cut {α : Type} (xs : List α) (lo hi : Option Int) : List α := (xs.drop (HT.sIx xs.length 0 lo)).take (HT.sIx xs.length xs.length hi - HT.sIx xs.length 0 lo)
theorem rvs_cut {K : Fg} {F : Hp} {xs : List D} {vs : List V} (r : Rvs K F xs vs) (lo hi : Option Int) : Rvs K F (cut xs lo hi) (cutV vs lo hi) := by
  unfold cut cutV
  rw [r.length]
  exact (r.drop _).take _
theorem cut_len {α : Type} (xs : List α) (lo hi : Option Int) : (cut xs lo hi).length ≤ xs.length := by
  unfold cut
  rw [List.length_take, List.length_drop]
  omega
abbrev SO := En → (Option Int → Prop) → Prop
def lO (K : Fg) (m : SO) : TO := fun σ H Q => ∃ y dr F env, Re K y dr F env σ H ∧ m env fun o => ∀ H' F', Re K y dr F' env σ H' → Ex dr F H F' H' → Q o H'
structure MO (X : Cx) (e : Option Expr) (m : SO) : Prop where
  run : PO X e (lO X.G m)
  mono : ∀ env (P Q : Option Int → Prop), (∀ d, P d → Q d) → m env P → m env Q
def sNo : SO := fun _ Q => Q none
def sPart (m : SE) : SO := fun env Q => m env fun d => match d with
  | .int i => Q (some i)
  | _ => False
theorem mo_none : MO X none sNo := by
  refine ⟨⟨fun pins s σ H Q I h => po_none.run pins s σ H Q I ?_⟩, fun env P Q k h => k _ h⟩
  obtain ⟨y, dr, F, env, re, hm⟩ := h
  exact hm H F re Ex.refl
theorem mo_some (ha : ME X true a ma) : MO X (some a) (sPart ma) := by
  refine ⟨⟨fun pins s σ H Q I h => (po_some ha.run).run pins s σ H Q I ?_⟩, fun env P Q k h => ha.mono _ _ _ (fun d h1 => by cases d <;> first | exact k _ h1 | exact h1) h⟩
  obtain ⟨y, dr, F, env, re, hm⟩ := h
  refine ⟨y, dr, F, env, re, ha.mono _ _ _ (fun d hd v H' F' r1 s1 w => ?_) hm⟩
  cases d with
  | int i => exact ⟨i, w.int, hd H' F' r1 s1⟩
  | _ => exact hd.elim
def slD (x : D) (lo hi : Option Int) : Option D := match x with
  | .list xs => some (.list (cut xs lo hi))
  | .tuple xs => some (.tuple (cut xs lo hi))
  | .str x => some (.str (cutS x lo hi))
  | _ => none
def sSl (m : SE) (l h : SO) : SE := fun env Q => m env fun x => l env fun lo => h env fun hi => ob (slD x lo hi) Q
theorem cut_whole {α : Type} (xs : List α) (lo hi : Option Int) (h : HT.sIx xs.length 0 lo = 0 ∧ HT.sIx xs.length xs.length hi = xs.length) : cut xs lo hi = xs := by
  unfold cut
  rw [h.1, h.2]
  simp
theorem me_sl {lo hi : Option Expr} {ml mh : SO} {p2 : Pos} (ha : ME X true a ma) (hl : MO X lo ml) (hh : MO X hi mh) : ME X b (.Subscript a (.Slice lo hi none p2) pos) (sSl ma ml mh) := by
  refine ⟨⟨fun pins s σ H Q I h => (pe_slice (sl_list.or (sl_tupP.or sl_str)) ha.run hl.run hh.run).run pins s σ H Q I ?_⟩, fun env P Q k h => ha.mono _ _ _ (fun _ h1 => hl.mono _ _ _ (fun _ h2 => hh.mono _ _ _ (fun _ h3 => ob_mono k h3) h2) h1) h⟩
  obtain ⟨y, dr, F, env, re, hm⟩ := h
  refine ⟨y, dr, F, env, re, ha.mono _ _ _ (fun d h1 v H1 F1 r1 s1 w1 => ?_) hm⟩
  refine ⟨y, dr, F1, env, r1, hl.mono _ _ _ (fun l h2 H2 F2 r2 s2 => ?_) h1⟩
  refine ⟨y, dr, F2, env, r2, hh.mono _ _ _ (fun u h3 H3 F3 r3 s3 => ?_) h2⟩
  have w3 := (w1.mono s2).mono s3
  have s13 := (s1.trans s2).trans s3
  unfold slD at h3
  split at h3
  · obtain ⟨a1, vs, rfl, e1, z1, rv⟩ := w3.list r3
    refine .inl ⟨a1, vs, rfl, SqL.of e1, fun p hp => ?_⟩
    exact h3 _ _ _ (r3.laid hp) (s13.trans (r3.ex hp)) (.inl (Rv.lstNew (r3.nF hp) (Nat.le_trans (cut_len _ _ _) z1) (rvs_cut rv l u)))
  · obtain ⟨a1, vs, rfl, e1, z1, rv⟩ := w3.tuple r3
    refine .inr (.inl ⟨a1, vs, rfl, re_tuple r3 e1, fun hw => ?_, fun _ p o t hp => ?_⟩)
    · rw [← rv.length] at hw
      rw [cut_whole _ _ _ hw] at h3
      exact h3 _ _ _ r3 s13 (.inl (.tup e1 z1 rv))
    · exact h3 _ _ _ (r3.laid hp) (s13.trans (r3.ex hp)) (.inl (Rv.tupNew (r3.nF hp) t (Nat.le_trans (cut_len _ _ _) z1) (rvs_cut rv l u)))
  · exact .inr (.inr ⟨_, w3.str.1, w3.str.2, h3 _ _ _ r3 s13 (.inl (.str _ (Nat.le_trans (cutS_length _ _ _) w3.str.2)))⟩)
  · exact h3.elim
/-! ### built-ins of one argument -/
def OkC (X : Cx) (b : Bool) (f : D → Option D) (r : List V → Hp → VK → Prop) : Prop := ∀ (y : Cy) (dr : Option Addr) (F : Hp) (env : En) (σ : L2.St) (H : Hp) (d1 d : D) (v1 : V) (Q : VK), Re X.G y dr F env σ H → Vr X.G b F env σ d1 v1 → f d1 = some d →
  (∀ v H' F', Re X.G y dr F' env σ H' → Ex dr F H F' H' → Rv X.G F' d v → Q v H') → r [v1] H Q
theorem call_red {f : D → Option D} {r : List V → Hp → VK → Prop} (ok : OkC X b f r) (ha : ME X b a ma) {σ : L2.St} {H : Hp} {Q : VK} (h : lE X.G b' (sUn f ma) σ H Q) : tCB r (tCons (lE X.G b ma) tNil) σ H Q := by
  obtain ⟨y, dr, F, env, re, hm⟩ := h
  refine ⟨y, dr, F, env, re, ha.mono _ _ _ (fun d1 h1 v1 H1 F1 r1 s1 w1 => ?_) hm⟩
  cases q : f d1 with
  | none => rw [q] at h1; exact h1.elim
  | some d =>
    rw [q] at h1
    exact ok y dr F1 env σ H1 d1 d v1 Q r1 w1 q fun v H' F' r2 s2 w2 => h1 v H' F' r2 (s1.trans s2) (.inl w2)
theorem un_mono {f : D → Option D} (ha : ME X b a ma) (env : En) (P Q : D → Prop) (k : ∀ d, P d → Q d) (h : sUn f ma env P) : sUn f ma env Q := ha.mono _ _ _ (fun _ h1 => ob_mono k h1) h
theorem me_B {x : Str} {p : Pos} {id : String} {f : D → Option D} {r : List V → Hp → VK → Prop} (hc : CallR X (.builtin id) r) (ok : OkC X b f r) (hg : Gl X x) (hm : X.mg x = none) (hv : bootBuiltins x = some (.builtin id)) (ha : ME X b a ma)
    (hn : x ≠ "__name__") (hdb : (x == ("__debug__" : Str)) = false)
    (he : starEach [a] X.env = (false, eval a X.env) :: starEach [] X.env) (hpl : (backTo pos (starEach [] X.env)).any (·.1) = false := by rfl) : ME X b' (.Call (.Name x p) [a] [] pos) (sUn f ma) :=
  ⟨⟨fun pins s σ H Q I h => (pe_callB hc hg hm hv (pa_cons ha.run pa_nil he) hn hdb he hpl).run pins s σ H Q I (call_red ok ha h)⟩, un_mono ha⟩
theorem me_T {x : Str} {p : Pos} {id : String} {f : D → Option D} {r : List V → Hp → VK → Prop} (hc : CallR X (.type id) r) (ok : OkC X b f r) (hg : Gl X x) (hm : X.mg x = none) (hv : bootBuiltins x = some (.type id)) (ha : ME X b a ma)
    (hn : x ≠ "__name__") (hdb : (x == ("__debug__" : Str)) = false)
    (he : starEach [a] X.env = (false, eval a X.env) :: starEach [] X.env) (hpl : (backTo pos (starEach [] X.env)).any (·.1) = false := by rfl) : ME X b' (.Call (.Name x p) [a] [] pos) (sUn f ma) :=
  ⟨⟨fun pins s σ H Q I h => (pe_callTy hc hg hm hv (pa_cons ha.run pa_nil he) hn hdb he hpl).run pins s σ H Q I (call_red ok ha h)⟩, un_mono ha⟩
def lenD : D → Option D
  | .list xs => some (.int xs.length)
  | .tuple xs => some (.int xs.length)
  | .str x => some (.int x.length)
  | _ => none
theorem me_len {p : Pos} (hg : Gl X "len") (hm : X.mg "len" = none) (ha : ME X true a ma) (he : starEach [a] X.env = (false, eval a X.env) :: starEach [] X.env := by rfl) : ME X b' (.Call (.Name "len" p) [a] [] pos) (sUn lenD ma) := by
  refine me_B (b := true) (call_len_seq.or call_len_str) ?_ hg hm PySem.boot_len ha (by decide) (by decide) he
  intro y dr F env σ H d1 d v1 Q re w e k
  unfold lenD at e
  split at e
  · cases e
    obtain ⟨a1, vs, rfl, h1, z1, rv⟩ := w.list re
    exact .inl ⟨a1, vs, rfl, .inl (SqL.of h1), by rw [← rv.length]; exact k _ H F re Ex.refl (.int _)⟩
  · cases e
    obtain ⟨a1, vs, rfl, h1, z1, rv⟩ := w.tuple re
    exact .inl ⟨a1, vs, rfl, .inr (re_tuple re h1), by rw [← rv.length]; exact k _ H F re Ex.refl (.int _)⟩
  · cases e
    exact .inr ⟨_, by rw [w.str.1], w.str.2, k _ H F re Ex.refl (.int _)⟩
  · cases e
def absD : D → Option D
  | .int i => some (.int (if i < 0 then -i else i))
  | _ => none
theorem me_abs {p : Pos} (hg : Gl X "abs") (hm : X.mg "abs" = none) (ha : ME X true a ma) (he : starEach [a] X.env = (false, eval a X.env) :: starEach [] X.env := by rfl) : ME X b' (.Call (.Name "abs" p) [a] [] pos) (sUn absD ma) := by
  refine me_B (b := true) call_abs ?_ hg hm (by decide +kernel) ha (by decide) (by decide) he
  intro y dr F env σ H d1 d v1 Q re w e k
  unfold absD at e
  split at e
  · cases e
    exact ⟨_, by rw [w.int], k _ H F re Ex.refl (.int _)⟩
  · cases e
def intD : D → Option D
  | .int i => some (.int i)
  | .bool c => some (.int (if c then 1 else 0))
  | _ => none
theorem me_intc {p : Pos} (hg : Gl X "int") (hm : X.mg "int" = none) (ha : ME X true a ma) (he : starEach [a] X.env = (false, eval a X.env) :: starEach [] X.env := by rfl) : ME X b' (.Call (.Name "int" p) [a] [] pos) (sUn intD ma) := by
  refine me_T (b := true) call_int1 ?_ hg hm (by decide +kernel) ha (by decide) (by decide) he
  intro y dr F env σ H d1 d v1 Q re w e k
  unfold intD at e
  split at e
  · cases e
    exact .inl ⟨_, by rw [w.int], k _ H F re Ex.refl (.int _)⟩
  · cases e
    exact .inr ⟨_, by rw [w.bool], k _ H F re Ex.refl (.int _)⟩
  · cases e
/-- a list of ints, of bools -/
def intsOf : List D → Option (List Int)
  | [] => some []
  | .int i :: r => (intsOf r).map fun l => i :: l
  | _ :: _ => none
def boolsOf : List D → Option (List Bool)
  | [] => some []
  | .bool i :: r => (boolsOf r).map fun l => i :: l
  | _ :: _ => none
theorem intsOf_eq : ∀ {xs : List D} {ns : List Int}, intsOf xs = some ns → xs = ns.map PyData.int
  | [], ns, h => by cases h; rfl
  | d :: r, ns, h => by
    cases d with
    | int i =>
      unfold intsOf at h
      cases q : intsOf r with
      | none => rw [q] at h; cases h
      | some l => rw [q] at h; cases h; rw [intsOf_eq q]; rfl
    | _ => cases h
theorem boolsOf_eq : ∀ {xs : List D} {ns : List Bool}, boolsOf xs = some ns → xs = ns.map PyData.bool
  | [], ns, h => by cases h; rfl
  | d :: r, ns, h => by
    cases d with
    | bool i =>
      unfold boolsOf at h
      cases q : boolsOf r with
      | none => rw [q] at h; cases h
      | some l => rw [q] at h; cases h; rw [boolsOf_eq q]; rfl
    | _ => cases h
theorem intsOf_map (ns : List Int) : intsOf (ns.map PyData.int) = some ns := by
  induction ns with
  | nil => rfl
  | cons n r ih => show (intsOf (r.map PyData.int)).map _ = _; rw [ih]; rfl
theorem boolsOf_map (ns : List Bool) : boolsOf (ns.map PyData.bool) = some ns := by
  induction ns with
  | nil => rfl
  | cons n r ih => show (boolsOf (r.map PyData.bool)).map _ = _; rw [ih]; rfl
theorem Rvs.bools {K : Fg} {F : Hp} : ∀ {ns : List Bool} {vs : List V}, Rvs K F (ns.map PyData.bool) vs → vs = ns.map V.bl
  | [], _, r => by cases r; rfl
  | n :: ns, _, r => by
    cases r with
    | cons a b => cases a; rw [Rvs.bools b]; rfl
def sumD : D → Option D
  | .list xs => (intsOf xs).map fun ns => .int ns.sum
  | .tuple xs => (intsOf xs).map fun ns => .int ns.sum
  | _ => none
theorem cr_sumT (hc : X.calm = true) : CallR X (.builtin "sum") (fun vs H Q => ∃ (a : Addr) (ns : List Int), vs = [V.ref a] ∧ SqT X.G H a (ns.map V.int) ∧ Q (.int ns.sum) H) := by
  intro pins s σ H vs us Q I r h
  obtain ⟨a, ns, rfl, hs, q⟩ := h
  obtain ⟨its, rv, hl, _⟩ := I.tuple hs
  rw [Vals.ref1 r]
  have hi := rv.ints
  obtain ⟨xs, e⟩ := hi.allInts.items
  have hn : numsOf (intItems xs).toList = ns := by rw [← e]; exact hi.numsOf
  rw [nums_intItems] at hn
  rw [e] at hl
  refine PySem.W.ktm_sumG (I.ok.hd hc) hl fun h' tk t' hk => ?_
  rw [preSum_eq, List.take_of_length_le (by simp), hn]
  exact ⟨.int _, H, I.kept hk, ⟨_, rfl⟩, q⟩
theorem me_sum {p : Pos} (hc : X.calm = true) (hg : Gl X "sum") (hm : X.mg "sum" = none) (ha : ME X true a ma) (he : starEach [a] X.env = (false, eval a X.env) :: starEach [] X.env := by rfl) : ME X b' (.Call (.Name "sum" p) [a] [] pos) (sUn sumD ma) := by
  refine me_B (b := true) ((cr_sum hc).or (cr_sumT hc)) ?_ hg hm (by decide +kernel) ha (by decide) (by decide) he
  intro y dr F env σ H d1 d v1 Q re w e k
  unfold sumD at e
  split at e
  · rename_i xs
    cases q : intsOf xs with
    | none => rw [q] at e; cases e
    | some ns =>
      rw [q] at e; cases e
      obtain ⟨a1, vs, rfl, h1, z1, rv⟩ := w.list re
      rw [intsOf_eq q] at rv
      rw [rv.ints] at h1
      exact .inl ⟨a1, ns, rfl, SqL.of h1, k _ H F re Ex.refl (.int _)⟩
  · rename_i xs
    cases q : intsOf xs with
    | none => rw [q] at e; cases e
    | some ns =>
      rw [q] at e; cases e
      obtain ⟨a1, vs, rfl, h1, z1, rv⟩ := w.tuple re
      rw [intsOf_eq q] at rv
      rw [rv.ints] at h1
      exact .inr ⟨a1, ns, rfl, re_tuple re h1, k _ H F re Ex.refl (.int _)⟩
  · cases e
def allD : D → Option D
  | .list xs => (boolsOf xs).map fun ns => .bool (ns.all id)
  | _ => none
def anyD : D → Option D
  | .list xs => (boolsOf xs).map fun ns => .bool (ns.any id)
  | _ => none
theorem me_all {p : Pos} (hc : X.calm = true) (hg : Gl X "all") (hm : X.mg "all" = none) (ha : ME X true a ma) (he : starEach [a] X.env = (false, eval a X.env) :: starEach [] X.env := by rfl) : ME X b' (.Call (.Name "all" p) [a] [] pos) (sUn allD ma) := by
  refine me_B (b := true) (cr_all hc) ?_ hg hm (by decide +kernel) ha (by decide) (by decide) he
  intro y dr F env σ H d1 d v1 Q re w e k
  unfold allD at e
  split at e
  · rename_i xs
    cases q : boolsOf xs with
    | none => rw [q] at e; cases e
    | some ns =>
      rw [q] at e; cases e
      obtain ⟨a1, vs, rfl, h1, z1, rv⟩ := w.list re
      rw [boolsOf_eq q] at rv
      rw [rv.bools] at h1
      exact ⟨a1, ns, rfl, SqL.of h1, k _ H F re Ex.refl (.bl _)⟩
  · cases e
theorem me_any {p : Pos} (hc : X.calm = true) (hg : Gl X "any") (hm : X.mg "any" = none) (ha : ME X true a ma) (he : starEach [a] X.env = (false, eval a X.env) :: starEach [] X.env := by rfl) : ME X b' (.Call (.Name "any" p) [a] [] pos) (sUn anyD ma) := by
  refine me_B (b := true) (cr_any hc) ?_ hg hm (by decide +kernel) ha (by decide) (by decide) he
  intro y dr F env σ H d1 d v1 Q re w e k
  unfold anyD at e
  split at e
  · rename_i xs
    cases q : boolsOf xs with
    | none => rw [q] at e; cases e
    | some ns =>
      rw [q] at e; cases e
      obtain ⟨a1, vs, rfl, h1, z1, rv⟩ := w.list re
      rw [boolsOf_eq q] at rv
      rw [rv.bools] at h1
      exact ⟨a1, ns, rfl, SqL.of h1, k _ H F re Ex.refl (.bl _)⟩
  · cases e
/-- the greatest, the least of some ints -/
def maxL : List Int → Int
  | [] => 0
  | [a] => a
  | a :: r => max a (maxL r)
def minL : List Int → Int
  | [] => 0
  | [a] => a
  | a :: r => min a (minL r)
theorem maxL_spec : ∀ {l : List Int}, 0 < l.length → maxL l ∈ l ∧ ∀ x ∈ l, x ≤ maxL l
  | [a], _ => by simp [maxL]
  | a :: b :: r, _ => by
    obtain ⟨h1, h2⟩ := maxL_spec (l := b :: r) (by simp)
    show max a (maxL (b :: r)) ∈ _ ∧ ∀ x ∈ _, x ≤ max a (maxL (b :: r))
    refine ⟨?_, fun x hx => ?_⟩
    · by_cases h : a ≤ maxL (b :: r)
      · rw [Int.max_eq_right h]; exact List.mem_cons_of_mem _ h1
      · rw [Int.max_eq_left (by omega)]; exact List.mem_cons_self
    · rcases List.mem_cons.mp hx with rfl | hx
      · exact Int.le_max_left _ _
      · exact Int.le_trans (h2 x hx) (Int.le_max_right _ _)
theorem minL_spec : ∀ {l : List Int}, 0 < l.length → minL l ∈ l ∧ ∀ x ∈ l, minL l ≤ x
  | [a], _ => by simp [minL]
  | a :: b :: r, _ => by
    obtain ⟨h1, h2⟩ := minL_spec (l := b :: r) (by simp)
    show min a (minL (b :: r)) ∈ _ ∧ ∀ x ∈ _, min a (minL (b :: r)) ≤ x
    refine ⟨?_, fun x hx => ?_⟩
    · by_cases h : a ≤ minL (b :: r)
      · rw [Int.min_eq_left h]; exact List.mem_cons_self
      · rw [Int.min_eq_right (by omega)]; exact List.mem_cons_of_mem _ h1
    · rcases List.mem_cons.mp hx with rfl | hx
      · exact Int.min_le_left _ _
      · exact Int.le_trans (Int.min_le_right _ _) (h2 x hx)
def maxD : D → Option D
  | .list xs => (intsOf xs).bind fun ns => if 0 < ns.length then some (.int (maxL ns)) else none
  | _ => none
def minD : D → Option D
  | .list xs => (intsOf xs).bind fun ns => if 0 < ns.length then some (.int (minL ns)) else none
  | _ => none
theorem me_max {p : Pos} (hc : X.calm = true) (hg : Gl X "max") (hm : X.mg "max" = none) (ha : ME X true a ma) (he : starEach [a] X.env = (false, eval a X.env) :: starEach [] X.env := by rfl) : ME X b' (.Call (.Name "max" p) [a] [] pos) (sUn maxD ma) := by
  refine me_B (b := true) (cr_max hc) ?_ hg hm (by decide +kernel) ha (by decide) (by decide) he
  intro y dr F env σ H d1 d v1 Q re w e k
  unfold maxD at e
  split at e
  · rename_i xs
    cases q : intsOf xs with
    | none => rw [q] at e; cases e
    | some ns =>
      rw [q] at e
      have e : (if 0 < ns.length then some (PyData.int (maxL ns)) else none) = some d := e
      split at e
      · cases e
        rename_i hl
        obtain ⟨a1, vs, rfl, h1, z1, rv⟩ := w.list re
        rw [intsOf_eq q] at rv
        rw [rv.ints] at h1
        refine ⟨a1, ns, rfl, SqL.of h1, hl, fun m hm hle => ?_⟩
        obtain ⟨h3, h4⟩ := maxL_spec hl
        have : m = maxL ns := Int.le_antisymm (h4 m hm) (hle _ h3)
        rw [this]
        exact k _ H F re Ex.refl (.int _)
      · cases e
  · cases e
theorem me_min {p : Pos} (hc : X.calm = true) (hg : Gl X "min") (hm : X.mg "min" = none) (ha : ME X true a ma) (he : starEach [a] X.env = (false, eval a X.env) :: starEach [] X.env := by rfl) : ME X b' (.Call (.Name "min" p) [a] [] pos) (sUn minD ma) := by
  refine me_B (b := true) (cr_min hc) ?_ hg hm (by decide +kernel) ha (by decide) (by decide) he
  intro y dr F env σ H d1 d v1 Q re w e k
  unfold minD at e
  split at e
  · rename_i xs
    cases q : intsOf xs with
    | none => rw [q] at e; cases e
    | some ns =>
      rw [q] at e
      have e : (if 0 < ns.length then some (PyData.int (minL ns)) else none) = some d := e
      split at e
      · cases e
        rename_i hl
        obtain ⟨a1, vs, rfl, h1, z1, rv⟩ := w.list re
        rw [intsOf_eq q] at rv
        rw [rv.ints] at h1
        refine ⟨a1, ns, rfl, SqL.of h1, hl, fun m hm hle => ?_⟩
        obtain ⟨h3, h4⟩ := minL_spec hl
        have : m = minL ns := Int.le_antisymm (hle _ h3) (h4 m hm)
        rw [this]
        exact k _ H F re Ex.refl (.int _)
      · cases e
  · cases e
/-! two arguments -/
def max2D : D → D → Option D
  | .int i, .int j => some (.int (max i j))
  | _, _ => none
def min2D : D → D → Option D
  | .int i, .int j => some (.int (min i j))
  | _, _ => none
theorem me_B2 {x : Str} {p : Pos} {id : String} {f : D → D → Option D} {r : List V → Hp → VK → Prop} (hc : CallR X (.builtin id) r) (ok : Ok2 X b f (fun x z H Q => r [x, z] H Q)) (hg : Gl X x) (hm : X.mg x = none) (hv : bootBuiltins x = some (.builtin id)) (ha : ME X b a ma) (hd : ME X b c mc)
    (hn : x ≠ "__name__") (hdb : (x == ("__debug__" : Str)) = false)
    (he : starEach [a, c] X.env = (false, eval a X.env) :: starEach [c] X.env) (he2 : starEach [c] X.env = (false, eval c X.env) :: starEach [] X.env) (hpl : (backTo pos (starEach [c] X.env)).any (·.1) = false) : ME X b' (.Call (.Name x p) [a, c] [] pos) (sOp f ma mc) :=
  ⟨⟨fun pins s σ H Q I h => (pe_callB hc hg hm hv (pa_cons ha.run (pa_cons hd.run pa_nil he2) he) hn hdb he hpl).run pins s σ H Q I (op_red (r := fun x z H Q => r [x, z] H Q) ok ha hd h)⟩, op_mono ha hd⟩
theorem me_max2 {p : Pos} (hcm : X.calm = true) (hg : Gl X "max") (hm : X.mg "max" = none) (ha : ME X true a ma) (hd : ME X true c mc)
    (he : starEach [a, c] X.env = (false, eval a X.env) :: starEach [c] X.env := by rfl) (he2 : starEach [c] X.env = (false, eval c X.env) :: starEach [] X.env := by rfl) (hpl : (backTo pos (starEach [c] X.env)).any (·.1) = false := by rfl) : ME X b' (.Call (.Name "max" p) [a, c] [] pos) (sOp max2D ma mc) := by
  refine me_B2 (b := true) (call_max2 hcm) ?_ hg hm (by decide +kernel) ha hd (by decide) (by decide) he he2 hpl
  intro y dr F env σ H d1 d2 d v1 v2 Q re w1 w2 e k
  unfold max2D at e
  split at e
  · cases e
    rename_i i j
    refine ⟨i, j, by rw [w1.int, w2.int], ?_⟩
    have : (if j > i then j else i) = max i j := by split <;> omega
    rw [this]
    exact k _ H F re Ex.refl (.int _)
  · cases e
theorem me_min2 {p : Pos} (hcm : X.calm = true) (hg : Gl X "min") (hm : X.mg "min" = none) (ha : ME X true a ma) (hd : ME X true c mc)
    (he : starEach [a, c] X.env = (false, eval a X.env) :: starEach [c] X.env := by rfl) (he2 : starEach [c] X.env = (false, eval c X.env) :: starEach [] X.env := by rfl) (hpl : (backTo pos (starEach [c] X.env)).any (·.1) = false := by rfl) : ME X b' (.Call (.Name "min" p) [a, c] [] pos) (sOp min2D ma mc) := by
  refine me_B2 (b := true) (call_min2 hcm) ?_ hg hm (by decide +kernel) ha hd (by decide) (by decide) he he2 hpl
  intro y dr F env σ H d1 d2 d v1 v2 Q re w1 w2 e k
  unfold min2D at e
  split at e
  · cases e
    rename_i i j
    refine ⟨i, j, by rw [w1.int, w2.int], ?_⟩
    have : (if j < i then j else i) = min i j := by split <;> omega
    rw [this]
    exact k _ H F re Ex.refl (.int _)
  · cases e
/-! list(x), tuple(x) of a list or a tuple -/
def seqOf : D → Option (List D)
  | .list xs => some xs
  | .tuple xs => some xs
  | _ => none
def obL (o : Option (List D)) (Q : List D → Prop) : Prop := match o with
  | some d => Q d
  | none => False
theorem obL_mono {o : Option (List D)} {P Q : List D → Prop} (k : ∀ d, P d → Q d) (h : obL o P) : obL o Q := by
  cases o with
  | none => exact h
  | some d => exact k d h
def sSeq' (m : SE) : SL := fun env Q => m env fun d => obL (seqOf d) Q
theorem seq_of {K : Fg} {y : Cy} {dr : Option Addr} {F H : Hp} {env : En} {σ : L2.St} {d : D} {v : V} {xs : List D} (re : Re K y dr F env σ H) (w : Vr K b F env σ d v) (h : seqOf d = some xs) : ∃ a vs, v = .ref a ∧ (SqL K H a vs ∨ SqT K H a vs) ∧ xs.length ≤ sizeLine ∧ Rvs K F xs vs := by
  cases d with
  | list xs => cases h; obtain ⟨a, vs, rfl, h1, z, r⟩ := w.list re; exact ⟨a, vs, rfl, .inl (SqL.of h1), z, r⟩
  | tuple xs => cases h; obtain ⟨a, vs, rfl, h1, z, r⟩ := w.tuple re; exact ⟨a, vs, rfl, .inr (re_tuple re h1), z, r⟩
  | _ => cases h
theorem mf_list {p : Pos} (hg : Gl X "list") (hm : X.mg "list" = none) (ha : ME X true a ma) (he : starEach [a] X.env = (false, eval a X.env) :: starEach [] X.env := by rfl) (hpl : (backTo pos (starEach [] X.env)).any (·.1) = false := by rfl) : MF X (.Call (.Name "list" p) [a] [] pos) (sSeq' ma) := by
  refine ⟨⟨fun pins s σ H Q I hq => (pe_callTy call_list_of hg hm (by decide +kernel) (pa_cons ha.run pa_nil he) (by decide) (by decide) he hpl).run pins s σ H Q I ?_⟩, fun env P Q k hp => ha.mono _ _ _ (fun d h1 => obL_mono k h1) hp⟩
  obtain ⟨y, dr, F, env, re, hm⟩ := hq
  refine ⟨y, dr, F, env, re, ha.mono _ _ _ (fun d1 h1 v1 H1 F1 r1 s1 w1 => ?_) hm⟩
  cases q : seqOf d1 with
  | none => rw [q] at h1; exact h1.elim
  | some xs =>
    rw [q] at h1
    obtain ⟨a1, vs, rfl, e1, z1, rv⟩ := seq_of r1 w1 q
    exact ⟨a1, vs, rfl, e1, fun p hp => new_lst r1 s1 hp rv z1 h1⟩
def tupD : D → Option D
  | .list xs => some (.tuple xs)
  | .tuple xs => some (.tuple xs)
  | _ => none
theorem me_tuple {p : Pos} (hg : Gl X "tuple") (hm : X.mg "tuple" = none) (ha : ME X true a ma) (he : starEach [a] X.env = (false, eval a X.env) :: starEach [] X.env := by rfl) : ME X b' (.Call (.Name "tuple" p) [a] [] pos) (sUn tupD ma) := by
  refine me_T (b := true) call_tupleP ?_ hg hm (by decide +kernel) ha (by decide) (by decide) he
  intro y dr F env σ H d1 d v1 Q re w e k
  unfold tupD at e
  split at e
  · cases e
    obtain ⟨a1, vs, rfl, h1, z1, rv⟩ := w.list re
    refine ⟨a1, vs, rfl, .inl ⟨SqL.of h1, fun p o t hp => ?_⟩⟩
    exact k _ _ _ (re.laid hp) (re.ex hp) (Rv.tupNew (re.nF hp) t z1 rv)
  · cases e
    obtain ⟨a1, vs, rfl, h1, z1, rv⟩ := w.tuple re
    exact ⟨a1, vs, rfl, .inr ⟨re_tuple re h1, k _ H F re Ex.refl (.tup h1 z1 rv)⟩⟩
  · cases e
end
end Mi

namespace Mi
open PySem PySem.Spec L2
section
variable {K : Fg} {y : Cy} {dr : Option Addr} {F H : Hp} {env : En} {σ : L2.St} {p : Addr} {o : HO}
theorem own_of_get {env : En} {i j : Nat} {s s' : Sl} (h : (env.set i s)[j]? = some s') : (j = i ∧ s' = s) ∨ (j ≠ i ∧ env[j]? = some s') := by
  by_cases e : j = i
  · subst e
    by_cases hl : j < env.length
    · rw [List.getElem?_set_self hl] at h; cases h; exact .inl ⟨rfl, rfl⟩
    · rw [List.getElem?_eq_none (by rw [List.length_set]; omega)] at h; cases h
  · rw [List.getElem?_set_ne (Ne.symm e)] at h; exact .inr ⟨e, h⟩
theorem st_of_get {σ : L2.St} {i j : Nat} {s s' : Option V} (h : (σ.set i s)[j]? = some s') : (j = i ∧ s' = s) ∨ (j ≠ i ∧ σ[j]? = some s') := by
  by_cases e : j = i
  · subst e
    by_cases hl : j < σ.length
    · rw [List.getElem?_set_self hl] at h; cases h; exact .inl ⟨rfl, rfl⟩
    · rw [List.getElem?_eq_none (by rw [List.length_set]; omega)] at h; cases h
  · rw [List.getElem?_set_ne (Ne.symm e)] at h; exact .inr ⟨e, h⟩
/-- a slot gets something -/
theorem Re.put (re : Re K y dr F env σ H) {i : Nat} {s : Sl} {v : Option V} (hs : SlOk K y dr F H v s) (hno : s.own = true → ∀ a, v = some (.ref a) → ∀ (j : Nat) (s' : Sl), j ≠ i → env[j]? = some s' → s'.own = true → σ[j]? ≠ some (some (.ref a))) : Re K y dr F (env.set i s) (σ.set i v) H := by
  refine ⟨re.rf, by rw [List.length_set, List.length_set]; exact re.len, fun j s' o h1 h2 => ?_, fun j l a s1 s2 h1 h2 o1 o2 h3 h4 => ?_⟩
  · rcases own_of_get h1 with ⟨rfl, rfl⟩ | ⟨ne, h1⟩
    · rcases st_of_get h2 with ⟨_, rfl⟩ | ⟨ne, _⟩
      · exact hs
      · exact absurd rfl ne
    · rcases st_of_get h2 with ⟨e, _⟩ | ⟨_, h2⟩
      · exact absurd e ne
      · exact re.slot j s' o h1 h2
  · rcases own_of_get h1 with ⟨ej, es⟩ | ⟨ne1, g1⟩
    · rcases own_of_get h2 with ⟨el, es2⟩ | ⟨ne2, g2⟩
      · rw [ej, el]
      · rcases st_of_get h3 with ⟨_, e3⟩ | ⟨z, _⟩
        · rcases st_of_get h4 with ⟨z, _⟩ | ⟨_, g4⟩
          · exact absurd z ne2
          · exact absurd g4 (hno (by rw [← es]; exact o1) a e3.symm l s2 ne2 g2 o2)
        · exact absurd ej z
    · rcases st_of_get h3 with ⟨z, _⟩ | ⟨_, g3⟩
      · exact absurd z ne1
      · rcases own_of_get h2 with ⟨el, es2⟩ | ⟨ne2, g2⟩
        · rcases st_of_get h4 with ⟨_, e4⟩ | ⟨z, _⟩
          · exact absurd g3 (hno (by rw [← es2]; exact o2) a e4.symm j s1 ne1 g1 o1)
          · exact absurd el z
        · rcases st_of_get h4 with ⟨z, _⟩ | ⟨_, g4⟩
          · exact absurd z ne2
          · exact re.sep j l a s1 s2 g1 g2 o1 o2 g3 g4
theorem Re.putV (re : Re K y dr F env σ H) {i : Nat} {d : D} {v : V} (r : Rv K F d v) : Re K y dr F (env.set i (.v d)) (σ.set i (some v)) H :=
  re.put ⟨v, rfl, r⟩ fun z => nomatch z
theorem Re.putL (re : Re K y dr F env σ H) {i : Nat} {xs : List D} {vs : List V} (hp : H p = some (.lst vs)) (fr : Free y dr F env σ p) (r : Rvs K F xs vs) (hz : xs.length ≤ sizeLine) : Re K y dr F (env.set i (.l xs)) (σ.set i (some (.ref p))) H :=
  re.put ⟨p, vs, rfl, hp, hz, r, fr.nF, fr.nH, fr.nd⟩ fun _ a e j s' _ h1 h2 h3 => by cases e; exact fr.no j s' h1 h2 h3
/-- an own list is changed in place -/
theorem Re.setL (re : Re K y dr F env σ H) {i : Nat} {xs ys : List D} {ws : List V} (h1 : env[i]? = some (.l xs)) (h2 : σ[i]? = some (some (.ref p))) (r : Rvs K F ys ws) (hz : ys.length ≤ sizeLine) : Re K y dr F (env.set i (.l ys)) σ (upd H p (.lst ws)) := by
  obtain ⟨a, vs, e1, e2, z, rv, e3, e4, e5⟩ := re.slot i _ _ h1 h2
  cases e1
  have kp : ∀ b, b ≠ p → upd H p (.lst ws) b = H b := fun b hb => upd_ne hb
  have hdr : ∀ a, dr = some a → a ≠ p := fun a e z => e5 (by rw [← z]; exact e.symm)
  refine ⟨⟨fun b u e => ?_, re.rf.sup, re.rf.new, fun b u e n => ?_, fun b hb => ?_, fun b hb => ?_, re.rf.drs, re.rf.drn⟩, by rw [List.length_set]; exact re.len, fun j s' o g1 g2 => ?_, fun j l a s1 s2 g1 g2 o1 o2 g3 g4 => ?_⟩
  · have hb : b ≠ p := fun z => by rw [z, e3] at e; cases e
    rw [kp b hb]; exact re.rf.sub b u e
  · have hb : b ≠ p := fun z => by rw [z, e4] at e; cases e
    rw [kp b hb]; exact re.rf.gr b u e n
  · have hbp : b ≠ p := fun z => by rw [z, e4] at hb; exact hb rfl
    rw [kp b hbp]; exact re.rf.dom b hb
  · obtain ⟨q1, q2⟩ := re.rf.drw b hb
    exact ⟨q1, q2.at (kp b (hdr b hb))⟩
  · rcases own_of_get g1 with ⟨rfl, rfl⟩ | ⟨ne, g1⟩
    · rw [h2] at g2; cases g2
      exact ⟨p, ws, rfl, upd_same, hz, r, e3, e4, e5⟩
    · refine (re.slot j s' o g1 g2).keep (Same.refl _) fun a ha w => ?_
      obtain ⟨c, w1, _, w3, w4, _⟩ := (re.slot j s' o g1 g2).there w
      rw [ha] at w1; cases w1
      have : a ≠ p := fun z => by
        subst z
        exact ne (re.sep j i a s' _ g1 h1 w rfl (by rw [g2, ha]) h2)
      exact ⟨kp a this, w3, w4⟩
  · have back : ∀ {m : Nat} {s : Sl}, (env.set i (.l ys))[m]? = some s → s.own = true → ∃ s', env[m]? = some s' ∧ s'.own = true := fun {m s} g w => by
      rcases own_of_get g with ⟨rfl, rfl⟩ | ⟨_, g⟩
      · exact ⟨_, h1, rfl⟩
      · exact ⟨_, g, w⟩
    obtain ⟨t1, u1, v1⟩ := back g1 o1
    obtain ⟨t2, u2, v2⟩ := back g2 o2
    exact re.sep j l a t1 t2 u1 u2 v1 v2 g3 g4
end
/-! ### statements -/
structure KLe (a c : Ks) : Prop where
  nx : ∀ e, a.nx e → c.nx e
  rt : ∀ e, a.rt e → c.rt e
  bk : ∀ e, a.bk e → c.bk e
  ct : ∀ e, a.ct e → c.ct e
theorem KLe.refl (a : Ks) : KLe a a := ⟨fun _ h => h, fun _ h => h, fun _ h => h, fun _ h => h⟩
def kN (K : Fg) (y : Cy) (F : Hp) (Q : L2.St → Hp → Prop) : En → Prop := fun env' => ∀ dr' F' σ' H', Re K y dr' F' env' σ' H' → Same F F' → Q σ' H'
def kR (K : Fg) (y : Cy) (Q : VK) : D → Prop := fun d => ∀ v dr' F' H', Rf y dr' F' H' → Rv K F' d v → Q v H'
def kS (K : Fg) (y : Cy) (F : Hp) (E : Ends) : Ks := ⟨kN K y F E.nx, kR K y E.rt, kN K y F E.bk, kN K y F E.ct⟩
def lS (K : Fg) (m : SS) : TS := fun E σ H => ∃ y dr F env, Re K y dr F env σ H ∧ m (kS K y F E) env
theorem kN_mono {K : Fg} {y : Cy} {F F' : Hp} {Q : L2.St → Hp → Prop} (h : Same F F') {e : En} (k : kN K y F Q e) : kN K y F' Q e := fun dr' F2 σ' H' re s => k dr' F2 σ' H' re (h.trans s)
theorem kS_mono {K : Fg} {y : Cy} {F F' : Hp} {E : Ends} (h : Same F F') : KLe (kS K y F E) (kS K y F' E) := ⟨fun _ k => kN_mono h k, fun _ k => k, fun _ k => kN_mono h k, fun _ k => kN_mono h k⟩
structure MS (X : Cx) (st : Stmt) (m : SS) : Prop where
  run : PS X st (lS X.G m)
  mono : ∀ (a c : Ks) env, KLe a c → m a env → m c env
structure MSs (X : Cx) (st : List Stmt) (m : SS) : Prop where
  run : PSs X st (lS X.G m)
  mono : ∀ (a c : Ks) env, KLe a c → m a env → m c env
def sSeq (a c : SS) : SS := fun K env => a ⟨fun e => c K e, K.rt, K.bk, K.ct⟩ env
def sSkip : SS := fun K env => K.nx env
section
variable {X : Cx} {st : Stmt} {sts : List Stmt} {m m' : SS} {a c e : Expr} {ma mc me : SE} {pos : Pos}
theorem mss_nil : MSs X [] sSkip := by
  refine ⟨⟨fun pins s σ H E I h => pss_nil.run pins s σ H E I ?_⟩, fun a c env k h => k.nx _ h⟩
  obtain ⟨y, dr, F, env, re, hm⟩ := h
  exact hm dr F σ H re (Same.refl _)
theorem mss_one (h : MS X st m) : MSs X [st] m := ⟨pss_one h.run, h.mono⟩
theorem seq_mono (h1 : ∀ (a c : Ks) env, KLe a c → m a env → m c env) (h2 : ∀ (a c : Ks) env, KLe a c → m' a env → m' c env) (a c : Ks) (env : En) (k : KLe a c) (h : sSeq m m' a env) : sSeq m m' c env :=
  h1 ⟨fun e => m' a e, a.rt, a.bk, a.ct⟩ ⟨fun e => m' c e, c.rt, c.bk, c.ct⟩ env ⟨fun e he => h2 _ _ _ k he, k.rt, k.bk, k.ct⟩ h
theorem mss_cons (h1 : MS X st m) (h2 : MSs X sts m') : MSs X (st :: sts) (sSeq m m') := by
  refine ⟨⟨fun pins s σ H E I h => (pss_cons h1.run h2.run).run pins s σ H E I ?_⟩, seq_mono h1.mono h2.mono⟩
  obtain ⟨y, dr, F, env, re, hm⟩ := h
  refine ⟨y, dr, F, env, re, h1.mono ⟨fun e => m' (kS X.G y F E) e, (kS X.G y F E).rt, (kS X.G y F E).bk, (kS X.G y F E).ct⟩ _ env ⟨fun env' he dr' F' σ' H' re' s' => ?_, fun _ h => h, fun _ h => h, fun _ h => h⟩ hm⟩
  exact ⟨y, dr', F', env', re', h2.mono (kS X.G y F E) _ env' (kS_mono s') he⟩
theorem ms_pass : MS X (.Pass pos) sSkip := by
  refine ⟨⟨fun pins s σ H E I h => ps_pass.run pins s σ H E I ?_⟩, fun a c env k h => k.nx _ h⟩
  obtain ⟨y, dr, F, env, re, hm⟩ := h
  exact hm dr F σ H re (Same.refl _)
def sBrk : SS := fun K env => K.bk env
def sCnt : SS := fun K env => K.ct env
theorem ms_brk : MS X (.Break pos) sBrk := by
  refine ⟨⟨fun pins s σ H E I h => ps_break.run pins s σ H E I ?_⟩, fun a c env k h => k.bk _ h⟩
  obtain ⟨y, dr, F, env, re, hm⟩ := h
  exact hm dr F σ H re (Same.refl _)
theorem ms_cnt : MS X (.Continue pos) sCnt := by
  refine ⟨⟨fun pins s σ H E I h => ps_continue.run pins s σ H E I ?_⟩, fun a c env k h => k.ct _ h⟩
  obtain ⟨y, dr, F, env, re, hm⟩ := h
  exact hm dr F σ H re (Same.refl _)
def sDrop (m : SE) : SS := fun K env => m env fun _ => K.nx env
theorem ms_expr (ha : ME X false a ma) (hs : swapsWith a none pos.line X.env = pure false := by rfl) : MS X (.Expr a pos) (sDrop ma) := by
  refine ⟨⟨fun pins s σ H E I h => (ps_expr ha.run hs).run pins s σ H E I ?_⟩, fun a c env k h => ha.mono _ _ _ (fun _ q => k.nx _ q) h⟩
  obtain ⟨y, dr, F, env, re, hm⟩ := h
  exact ⟨y, dr, F, env, re, ha.mono _ _ _ (fun d hd v H' F' r1 s1 w => hd dr F' σ H' r1 s1.f) hm⟩
def sRet (m : SE) : SS := fun K env => m env K.rt
theorem ms_ret (ha : ME X false a ma) : MS X (.Return (some a) pos) (sRet ma) := by
  refine ⟨⟨fun pins s σ H E I h => (ps_ret ha.run).run pins s σ H E I ?_⟩, fun a c env k h => ha.mono _ _ _ k.rt h⟩
  obtain ⟨y, dr, F, env, re, hm⟩ := h
  exact ⟨y, dr, F, env, re, ha.mono _ _ _ (fun d hd v H' F' r1 s1 w => hd v dr F' H' r1.rf w.rv) hm⟩
def sRetN : SS := fun K _ => K.rt .none
theorem ms_retN : MS X (.Return none pos) sRetN := by
  refine ⟨⟨fun pins s σ H E I h => ps_retN.run pins s σ H E I ?_⟩, fun a c env k h => k.rt _ h⟩
  obtain ⟨y, dr, F, env, re, hm⟩ := h
  exact hm .non dr F H re.rf .non
def sIfS (t : SB) (m m' : SS) : SS := fun K env => t env fun k => if k = true then m K env else m' K env
theorem ms_if {t : Expr} {tt : SB} {p q : List Stmt} (ht : MT X t tt) (h1 : MSs X p m) (h2 : MSs X q m') : MS X (.If t p q pos) (sIfS tt m m') := by
  refine ⟨⟨fun pins s σ H E I h => (ps_if ht.run h1.run h2.run).run pins s σ H E I ?_⟩, fun a c env k h => ht.mono _ _ _ (fun d hd => ?_) h⟩
  · obtain ⟨y, dr, F, env, re, hm⟩ := h
    refine ⟨y, dr, F, env, re, ht.mono _ _ _ (fun d hd H' F' r1 s1 => ?_) hm⟩
    cases d with
    | true => rw [if_pos rfl] at hd ⊢; exact ⟨y, dr, F', env, r1, h1.mono _ _ _ (kS_mono s1.f) hd⟩
    | false => rw [if_neg Bool.false_ne_true] at hd ⊢; exact ⟨y, dr, F', env, r1, h2.mono _ _ _ (kS_mono s1.f) hd⟩
  · cases d with
    | true => rw [if_pos rfl] at hd ⊢; exact h1.mono _ _ _ k hd
    | false => rw [if_neg Bool.false_ne_true] at hd ⊢; exact h2.mono _ _ _ k hd
/-! a slot that one's own object stands in, as a value from here on -/
def fzS : Sl → Sl
  | .l xs => .v (.list xs)
  | .k kvs => .v (.dict (kdD kvs))
  | .t kvs => .v (.dict (ktM kvs))
  | s => s
def fz (i : Nat) (env : En) : En := match env[i]? with
  | some s => env.set i (fzS s)
  | none => env
def sFz (i : Nat) (m : SS) : SS := fun K env => m K (fz i env)
theorem Re.fz {K : Fg} {y : Cy} {dr : Option Addr} {F H : Hp} {env : En} {σ : L2.St} (re : Re K y dr F env σ H) (i : Nat) : ∃ F', Same F F' ∧ Re K y dr F' (fz i env) σ H := by
  unfold Mi.fz
  cases q : env[i]? with
  | none => exact ⟨F, Same.refl _, re⟩
  | some s =>
    obtain ⟨o, g1, g2⟩ := re.get q
    have self : ∀ (F' : Hp), Re K y dr F' (env.set i .un) σ H → (∃ v, o = some v ∧ ∀ d, fzS s = .v d → Rv K F' d v) → (∃ d, fzS s = .v d) → Re K y dr F' (env.set i (fzS s)) σ H := by
      rintro F' r1 ⟨v, rfl, hv⟩ ⟨d, hd⟩
      have r2 := r1.putV (i := i) (hv d hd)
      rw [List.set_set] at r2
      rw [hd]
      have : σ.set i (some v) = σ := by
        apply List.ext_getElem?
        intro j
        by_cases e : j = i
        · subst e
          rw [List.getElem?_set_self (List.getElem?_eq_some_iff.mp g1).1, g1]
        · rw [List.getElem?_set_ne (Ne.symm e)]
      rw [this] at r2
      exact r2
    have un : Re K y dr F (env.set i .un) σ H := by
      refine ⟨re.rf, by rw [List.length_set]; exact re.len, fun j s' o h1 h2 => ?_, fun j l a s1 s2 h1 h2 o1 o2 h3 h4 => ?_⟩
      · rcases own_of_get h1 with ⟨rfl, rfl⟩ | ⟨ne, h1⟩
        · trivial
        · exact re.slot j s' o h1 h2
      · rcases own_of_get h1 with ⟨rfl, rfl⟩ | ⟨_, h1⟩
        · cases o1
        · rcases own_of_get h2 with ⟨rfl, rfl⟩ | ⟨_, h2⟩
          · cases o2
          · exact re.sep j l a s1 s2 h1 h2 o1 o2 h3 h4
    have fr : ∀ a, o = some (.ref a) → s.own = true → Free y dr F (env.set i .un) σ a := by
      rintro a rfl w
      obtain ⟨b, e1, e2, e3, e4, e5⟩ := g2.there w
      cases e1
      refine ⟨e3, e4, e5, fun j s' h1 h2 h3 => ?_⟩
      rcases own_of_get h1 with ⟨rfl, rfl⟩ | ⟨ne, h1⟩
      · cases h2
      · exact ne (re.sep j i a s' s h1 q h2 w h3 g1)
    cases s with
    | l xs =>
      obtain ⟨a, vs, e1, e2, z, rv, e3, _⟩ := id g2
      have f1 := fr a e1 rfl
      exact ⟨_, upd_grow e3, self _ (un.freeze f1 e2) ⟨_, e1, fun d hd => by cases hd; exact Rv.lstNew e3 z rv⟩ ⟨_, rfl⟩⟩
    | k xs =>
      obtain ⟨a, vs, e1, e2, rv, e3, _⟩ := id g2
      have f1 := fr a e1 rfl
      exact ⟨_, upd_grow e3, self _ (un.freeze f1 e2) ⟨_, e1, fun d hd => by cases hd; exact .dic (.inl upd_same) (rv.mono (upd_grow e3))⟩ ⟨_, rfl⟩⟩
    | t xs =>
      obtain ⟨a, vs, e1, e2, rv, e3, _⟩ := id g2
      have f1 := fr a e1 rfl
      exact ⟨_, upd_grow e3, self _ (un.freeze f1 e2) ⟨_, e1, fun d hd => by cases hd; exact .dit (.inl upd_same) (rv.mono (upd_grow e3))⟩ ⟨_, rfl⟩⟩
    | un =>
      refine ⟨F, Same.refl _, ?_⟩
      show Re K y dr F (env.set i .un) σ H
      exact un
    | v d =>
      refine ⟨F, Same.refl _, ?_⟩
      have : env.set i (.v d) = env := by
        apply List.ext_getElem?
        intro j
        by_cases e : j = i
        · subst e
          rw [List.getElem?_set_self (List.getElem?_eq_some_iff.mp q).1, q]
        · rw [List.getElem?_set_ne (Ne.symm e)]
      show Re K y dr F (env.set i (.v d)) σ H
      rw [this]
      exact re
    | sc ns =>
      refine ⟨F, Same.refl _, ?_⟩
      have : env.set i (.sc ns) = env := by
        apply List.ext_getElem?
        intro j
        by_cases e : j = i
        · subst e
          rw [List.getElem?_set_self (List.getElem?_eq_some_iff.mp q).1, q]
        · rw [List.getElem?_set_ne (Ne.symm e)]
      show Re K y dr F (env.set i (.sc ns)) σ H
      rw [this]
      exact re
    | dr =>
      refine ⟨F, Same.refl _, ?_⟩
      have : env.set i .dr = env := by
        apply List.ext_getElem?
        intro j
        by_cases e : j = i
        · subst e
          rw [List.getElem?_set_self (List.getElem?_eq_some_iff.mp q).1, q]
        · rw [List.getElem?_set_ne (Ne.symm e)]
      show Re K y dr F (env.set i .dr) σ H
      rw [this]
      exact re
theorem ms_fz (i : Nat) (h : MS X st m) : MS X st (sFz i m) := by
  refine ⟨⟨fun pins s σ H E I hq => h.run.run pins s σ H E I ?_⟩, fun a c env k hq => h.mono _ _ _ k hq⟩
  obtain ⟨y, dr, F, env, re, hm⟩ := hq
  obtain ⟨F', s1, r1⟩ := re.fz i
  exact ⟨y, dr, F', _, r1, h.mono _ _ _ (kS_mono s1) hm⟩
/-! ### stores -/
def sAsg (i : Nat) (m : SE) : SS := fun K env => m env fun d => K.nx (env.set i (.v d))
theorem asg_mono {i : Nat} (ha : ∀ env (P Q : D → Prop), (∀ d, P d → Q d) → ma env P → ma env Q) (a c : Ks) (env : En) (k : KLe a c) (h : sAsg i ma a env) : sAsg i ma c env := ha _ _ _ (fun _ q => k.nx _ q) h
theorem asg_red {i : Nat} {E : Ends} {σ : L2.St} {H : Hp} (mono : ∀ env (P Q : D → Prop), (∀ d, P d → Q d) → ma env P → ma env Q) (h : lS X.G (sAsg i ma) E σ H) : tAsg (lE X.G false ma) (gName i) E σ H := by
  obtain ⟨y, dr, F, env, re, hm⟩ := h
  exact ⟨y, dr, F, env, re, mono _ _ _ (fun d hd v H' F' r1 s1 w => hd dr F' _ H' (r1.putV w.rv) s1.f) hm⟩
theorem ms_set {i : Nat} {x : Str} {pos' : Pos} (hN : X.N.Nodup) (hi : X.N[i]? = some x) (hx : Loc X.env.scope x) (ha : ME X false a ma) (hs : swapsWith a (some (.Name x pos')) pos.line X.env = pure false := by rfl)
    (hf : X.fn x = true ∨ X.env.scope.names.lookup x = some .local := by first | exact .inl rfl | exact .inr rfl | assumption) : MS X (.Assign [.Name x pos'] a pos) (sAsg i ma) :=
  ⟨⟨fun pins s σ H E I h => (ps_set hN hi hx ha.run hs hf).run pins s σ H E I (asg_red ha.mono h)⟩, asg_mono ha.mono⟩
def sOwn (i : Nat) (m : SL) : SS := fun K env => m env fun xs => K.nx (env.set i (.l xs))
theorem own_mono {i : Nat} {ml : SL} (ha : ∀ env (P Q : List D → Prop), (∀ d, P d → Q d) → ml env P → ml env Q) (a c : Ks) (env : En) (k : KLe a c) (h : sOwn i ml a env) : sOwn i ml c env := ha _ _ _ (fun _ q => k.nx _ q) h
theorem own_red {i : Nat} {ml : SL} {E : Ends} {σ : L2.St} {H : Hp} (mono : ∀ env (P Q : List D → Prop), (∀ d, P d → Q d) → ml env P → ml env Q) (h : lS X.G (sOwn i ml) E σ H) : tAsg (lF X.G ml) (gName i) E σ H := by
  obtain ⟨y, dr, F, env, re, hm⟩ := h
  exact ⟨y, dr, F, env, re, mono _ _ _ (fun xs hd p vs H' F' r1 s1 hp fr rv hz => hd dr F' _ H' (r1.putL hp fr rv hz) s1.f) hm⟩
theorem ms_own {i : Nat} {x : Str} {pos' : Pos} {ml : SL} (hN : X.N.Nodup) (hi : X.N[i]? = some x) (hx : Loc X.env.scope x) (ha : MF X a ml) (hs : swapsWith a (some (.Name x pos')) pos.line X.env = pure false := by rfl)
    (hf : X.fn x = true ∨ X.env.scope.names.lookup x = some .local := by first | exact .inl rfl | exact .inr rfl | assumption) : MS X (.Assign [.Name x pos'] a pos) (sOwn i ml) :=
  ⟨⟨fun pins s σ H E I h => (ps_set hN hi hx ha.run hs hf).run pins s σ H E I (own_red ha.mono h)⟩, own_mono ha.mono⟩
/-! targets -/
def lG (K : Fg) (ts : List Nat) (g : SG) : TG := fun v σ H Q => ∃ y dr F env d, Re K y dr F env σ H ∧ Rv K F d v ∧ g d env fun env' => ∀ F' σ' H', Re K y dr F' env' σ' H' → Ex dr F H F' H' → wipe σ' ts = wipe σ ts → Q σ' H'
abbrev SGs := List D → En → (En → Prop) → Prop
def lGs (K : Fg) (ts : List Nat) (g : SGs) : TGs := fun vs σ H Q => ∃ y dr F env ds, Re K y dr F env σ H ∧ Rvs K F ds vs ∧ g ds env fun env' => ∀ F' σ' H', Re K y dr F' env' σ' H' → Ex dr F H F' H' → wipe σ' ts = wipe σ ts → Q σ' H'
def wipeE (env : En) : List Nat → En
  | [] => env
  | v :: vs => (wipeE env vs).set v .un
theorem wipeE_length (env : En) : ∀ vs : List Nat, (wipeE env vs).length = env.length
  | [] => rfl
  | v :: vs => by unfold wipeE; rw [List.length_set, wipeE_length env vs]
theorem wipeE_get {env : En} {i : Nat} : ∀ {vs : List Nat}, i ∉ vs → (wipeE env vs)[i]? = env[i]?
  | [], _ => rfl
  | v :: vs, h => by
    simp only [List.mem_cons, not_or] at h
    unfold wipeE
    rw [List.getElem?_set_ne (Ne.symm h.1)]
    exact wipeE_get h.2
theorem wipeE_in {env : En} {i : Nat} : ∀ {vs : List Nat}, i ∈ vs → i < env.length → (wipeE env vs)[i]? = some .un
  | v :: vs, h, hl => by
    unfold wipeE
    by_cases e : v = i
    · subst e
      rw [List.getElem?_set_self (by rw [wipeE_length]; exact hl)]
    · rw [List.getElem?_set_ne e]
      exact wipeE_in ((List.mem_cons.mp h).resolve_left (Ne.symm e)) hl
theorem wipe_get {σ : L2.St} {i : Nat} : ∀ {vs : List Nat}, i ∉ vs → (wipe σ vs)[i]? = σ[i]?
  | [], _ => rfl
  | v :: vs, h => by
    simp only [List.mem_cons, not_or] at h
    unfold wipe
    rw [List.getElem?_set_ne (Ne.symm h.1)]
    exact wipe_get h.2
theorem wipe_in {σ : L2.St} {i : Nat} : ∀ {vs : List Nat}, i ∈ vs → i < σ.length → (wipe σ vs)[i]? = some none
  | v :: vs, h, hl => by
    unfold wipe
    by_cases e : v = i
    · subst e
      rw [List.getElem?_set_self (by rw [wipe_length]; exact hl)]
    · rw [List.getElem?_set_ne e]
      exact wipe_in ((List.mem_cons.mp h).resolve_left (Ne.symm e)) hl
theorem wipe_set {σ : L2.St} {i : Nat} {o : Option V} {ts : List Nat} (h : i ∈ ts) : wipe (σ.set i o) ts = wipe σ ts := by
  apply List.ext_getElem?
  intro j
  by_cases hj : j ∈ ts
  · by_cases hl : j < σ.length
    · rw [wipe_in hj hl, wipe_in hj (by rw [List.length_set]; exact hl)]
    · rw [List.getElem?_eq_none (by rw [wipe_length, List.length_set]; omega), List.getElem?_eq_none (by rw [wipe_length]; omega)]
  · rw [wipe_get hj, wipe_get hj, List.getElem?_set_ne (fun e => hj (by rw [← e]; exact h))]
theorem wipeE_set {env : En} {i : Nat} {o : Sl} {ts : List Nat} (h : i ∈ ts) : wipeE (env.set i o) ts = wipeE env ts := by
  apply List.ext_getElem?
  intro j
  by_cases hj : j ∈ ts
  · by_cases hl : j < env.length
    · rw [wipeE_in hj hl, wipeE_in hj (by rw [List.length_set]; exact hl)]
    · rw [List.getElem?_eq_none (by rw [wipeE_length, List.length_set]; omega), List.getElem?_eq_none (by rw [wipeE_length]; omega)]
  · rw [wipeE_get hj, wipeE_get hj, List.getElem?_set_ne (fun e => hj (by rw [← e]; exact h))]
structure MG (X : Cx) (ts : List Nat) (tg : Expr) (g : SG) : Prop where
  run : PG X tg (lG X.G ts g)
  mono : ∀ d env (P Q : En → Prop), (∀ e, P e → Q e) → g d env P → g d env Q
  fr : ∀ d env (Q : En → Prop), g d env Q → g d env fun e => Q e ∧ wipeE e ts = wipeE env ts
  ex : ∀ d env (Q : En → Prop), g d env Q → ∃ e, Q e
structure MGs (X : Cx) (ts : List Nat) (tg : List Expr) (g : SGs) : Prop where
  run : PGs X tg (lGs X.G ts g)
  mono : ∀ d env (P Q : En → Prop), (∀ e, P e → Q e) → g d env P → g d env Q
  fr : ∀ d env (Q : En → Prop), g d env Q → g d env fun e => Q e ∧ wipeE e ts = wipeE env ts
  ex : ∀ d env (Q : En → Prop), g d env Q → d.length = tg.length ∧ ∃ e, Q e
def gN (i : Nat) : SG := fun d env Q => Q (env.set i (.v d))
theorem mg_name {i : Nat} {x : Str} {ts : List Nat} (hN : X.N.Nodup) (hi : X.N[i]? = some x) (hx : Loc X.env.scope x) (ht : i ∈ ts) (hf : X.fn x = true ∨ X.env.scope.names.lookup x = some .local := by first | exact .inl rfl | exact .inr rfl | assumption) : MG X ts (.Name x pos) (gN i) := by
  refine ⟨⟨fun pins s σ H v u Q I r h => (pg_name hN hi hx hf).run pins s σ H v u Q I r ?_⟩, fun d env P Q k h => k _ h, fun d env Q h => ⟨h, wipeE_set ht⟩, fun d env Q h => ⟨_, h⟩⟩
  obtain ⟨y, dr, F, env, d, re, rv, hm⟩ := h
  exact hm F _ H (re.putV rv) Ex.refl (wipe_set ht)
def gNo : SGs := fun ds env Q => match ds with
  | [] => Q env
  | _ => False
def gCo (g : SG) (gs : SGs) : SGs := fun ds env Q => match ds with
  | d :: r => g d env fun e => gs r e Q
  | [] => False
theorem gNo_inv {ds : List D} {env : En} {Q : En → Prop} (h : gNo ds env Q) : ds = [] ∧ Q env := by
  cases ds with
  | nil => exact ⟨rfl, h⟩
  | cons d r => exact h.elim
theorem gCo_inv {g : SG} {gs : SGs} {ds : List D} {env : En} {Q : En → Prop} (h : gCo g gs ds env Q) : ∃ d r, ds = d :: r ∧ g d env fun e => gs r e Q := by
  cases ds with
  | nil => exact h.elim
  | cons d r => exact ⟨d, r, rfl, h⟩
theorem mgs_nil {ts : List Nat} : MGs X ts [] gNo := by
  refine ⟨⟨fun pins s σ H vs us Q I r h => pgs_nil.run pins s σ H vs us Q I r ?_⟩, fun d env P Q k h => ?_, fun d env Q h => ?_, fun d env Q h => ?_⟩
  · obtain ⟨y, dr, F, env, d, re, rv, h0⟩ := h
    obtain ⟨h0, hm⟩ := gNo_inv h0
    subst h0
    cases rv
    exact ⟨rfl, hm F _ H re Ex.refl rfl⟩
  · obtain ⟨rfl, h⟩ := gNo_inv h
    exact k _ h
  · obtain ⟨rfl, h⟩ := gNo_inv h
    exact ⟨h, rfl⟩
  · obtain ⟨rfl, h⟩ := gNo_inv h
    exact ⟨rfl, _, h⟩
theorem mgs_cons {ts : List Nat} {tg : Expr} {tgs : List Expr} {g : SG} {gs : SGs} (h1 : MG X ts tg g) (h2 : MGs X ts tgs gs) (hs : (assignEach (tg :: tgs) X.env).map (·.2) = assign tg X.env :: (assignEach tgs X.env).map (·.2) := by rfl) : MGs X ts (tg :: tgs) (gCo g gs) := by
  refine ⟨⟨fun pins s σ H vs us Q I r h => (pgs_cons h1.run h2.run hs).run pins s σ H vs us Q I r ?_⟩, fun d env P Q k h => ?_, fun d env Q h => ?_, fun d env Q h => ?_⟩
  · obtain ⟨y, dr, F, env, d, re, rv, h0⟩ := h
    obtain ⟨d1, dr', e1, hm⟩ := gCo_inv h0
    subst e1
    cases rv with
    | cons r1 r2 =>
      refine ⟨_, _, rfl, y, dr, F, env, _, re, r1, h1.mono _ _ _ _ (fun env' he F' σ' H' re' s' w' => ?_) hm⟩
      exact ⟨y, dr, F', env', _, re', r2.mono s'.f, h2.mono _ _ _ _ (fun e2 h3 F2 σ2 H2 re2 s2 w2 => h3 F2 σ2 H2 re2 (s'.trans s2) (w2.trans w')) he⟩
  · obtain ⟨d1, r, rfl, h⟩ := gCo_inv h
    show g d1 env fun e => gs r e Q
    exact h1.mono _ _ _ _ (fun e he => h2.mono _ _ _ _ k he) h
  · obtain ⟨d1, r, rfl, h⟩ := gCo_inv h
    show g d1 env fun e => gs r e _
    exact h1.mono _ _ _ _ (fun e he => h2.mono _ _ _ _ (fun e2 h2 => ⟨h2.1, h2.2.trans he.2⟩) (h2.fr _ _ _ he.1)) (h1.fr _ _ _ h)
  · obtain ⟨d1, r, rfl, h⟩ := gCo_inv h
    obtain ⟨e1, he⟩ := h1.ex _ _ _ h
    obtain ⟨hl, he2⟩ := h2.ex _ _ _ he
    exact ⟨congrArg (· + 1) hl, he2⟩
def gT (n : Nat) (gs : SGs) : SG := fun d env Q => match d with
  | .tuple xs => gs xs env Q
  | _ => False
theorem mg_tup {ts : List Nat} {tgs : List Expr} {gs : SGs} {k n : Nat} (hc : X.calm = true) (h : MGs X ts tgs gs) (hn : (assignEach tgs X.env).length = n := by rfl) (hst : (assignEach tgs X.env).findIdx? (·.1) = none := by rfl) (hn2 : tgs.length = n := by rfl) : MG X ts (.Tuple tgs k pos) (gT n gs) := by
  refine ⟨⟨fun pins s σ H v u Q I r hq => (pg_tup hc h.run hn hst).run pins s σ H v u Q I r ?_⟩, fun d env P Q k hq => ?_, fun d env Q hq => ?_, fun d env Q hq => ?_⟩
  · obtain ⟨y, dr, F, env, d, re, rv, hm⟩ := hq
    cases d with
    | tuple xs =>
      cases rv with
      | tup q1 q2 q3 => exact ⟨_, _, rfl, re_tuple re q1, by rw [← q3.length]; exact (h.ex _ _ _ hm).1.trans hn2, y, dr, F, env, xs, re, q3, hm⟩
    | _ => exact hm.elim
  · cases d with
    | tuple xs => exact h.mono _ _ _ _ k hq
    | _ => exact hq.elim
  · cases d with
    | tuple xs => exact h.fr _ _ _ hq
    | _ => exact hq.elim
  · cases d with
    | tuple xs => exact (h.ex _ _ _ hq).2
    | _ => exact hq.elim
/-- target = value, the target of any form -/
def sAsgG (m : SE) (g : SG) : SS := fun K env => m env fun d => g d env K.nx
theorem ms_asg {ts : List Nat} {tg : Expr} {g : SG} (ha : ME X false a ma) (hg : MG X ts tg g) (hs : swapsWithSole [tg] a pos.line X.env = pure false := by rfl) (hw : swappedStores [tg] a X.env = pure none := by rfl)
    (h1 : (assignEach [tg] X.env).map (·.2) = [assign tg X.env] := by rfl) : MS X (.Assign [tg] a pos) (sAsgG ma g) := by
  refine ⟨⟨fun pins s σ H E I h => (ps_asg ha.run hg.run hs hw h1).run pins s σ H E I ?_⟩, fun a c env k h => ha.mono _ _ _ (fun d hd => hg.mono _ _ _ _ k.nx hd) h⟩
  obtain ⟨y, dr, F, env, re, hm⟩ := h
  refine ⟨y, dr, F, env, re, ha.mono _ _ _ (fun d hd v H' F' r1 s1 w => ?_) hm⟩
  exact ⟨y, dr, F', env, d, r1, w.rv, hg.mono _ _ _ _ (fun e he F2 σ2 H2 re2 s2 _ => he dr F2 σ2 H2 re2 (s1.trans s2).f) hd⟩
/-- a, b = x, z: both sides written, two local names -/
def sPar (i j : Nat) (m : SA) : SS := fun K env => m env fun ds => match ds with
  | [d, d'] => K.nx ((env.set i (.v d)).set j (.v d'))
  | _ => False
theorem ms_par {i j : Nat} {x z : Str} {m : SA} {px py pt : Pos} {kt k2 pt2} (hc : X.calm = true) (hN : X.N.Nodup) (hi : X.N[i]? = some x) (hj : X.N[j]? = some z) (hij : i ≠ j)
    (hx : X.env.scope.names.lookup x = some .local) (hy : X.env.scope.names.lookup z = some .local) (ha : MA X false [a, c] m)
    (hw : swappedStores [.Tuple [.Name x px, .Name z py] kt pt] (.Tuple [a, c] k2 pt2) X.env = pure (some [x, z]))
    (hs : swapsWithSole [.Tuple [.Name x px, .Name z py] kt pt] (.Tuple [a, c] k2 pt2) pos.line X.env = pure false := by rfl) :
    MS X (.Assign [.Tuple [.Name x px, .Name z py] kt pt] (.Tuple [a, c] k2 pt2) pos) (sPar i j m) := by
  refine ⟨⟨fun pins s σ H E I h => (ps_par hc hN hi hj hij hx hy ha.run hw hs).run pins s σ H E I ?_⟩, fun a c env k h => ha.mono _ _ _ (fun ds hd => ?_) h⟩
  · obtain ⟨y, dr, F, env, re, hm⟩ := h
    refine ⟨y, dr, F, env, re, ha.mono _ _ _ (fun ds hd vs H' F' r1 s1 w => ?_) hm⟩
    have r := rvs_of w
    split at hd
    · cases r with
      | cons q1 q =>
        cases q with
        | cons q2 q =>
          cases q
          exact ⟨_, _, rfl, hd dr F' _ H' ((r1.putV q1).putV q2) s1.f⟩
    · exact hd.elim
  · split at hd
    · exact k.nx _ hd
    · exact hd
def sPar3 (i j l : Nat) (m : SA) : SS := fun K env => m env fun ds => match ds with
  | [d, d', d''] => K.nx (((env.set i (.v d)).set j (.v d')).set l (.v d''))
  | _ => False
theorem ms_par3 {i j l : Nat} {x z w : Str} {m : SA} {b : Expr} {px py pz pt : Pos} {kt k2 pt2} (hc : X.calm = true) (hN : X.N.Nodup) (hi : X.N[i]? = some x) (hj : X.N[j]? = some z) (hl : X.N[l]? = some w) (hij : i ≠ j) (hil : i ≠ l) (hjl : j ≠ l)
    (hx : X.env.scope.names.lookup x = some .local) (hy : X.env.scope.names.lookup z = some .local) (hz : X.env.scope.names.lookup w = some .local) (ha : MA X false [a, b, c] m)
    (hw : swappedStores [.Tuple [.Name x px, .Name z py, .Name w pz] kt pt] (.Tuple [a, b, c] k2 pt2) X.env = pure (some [x, z, w]))
    (hs : swapsWithSole [.Tuple [.Name x px, .Name z py, .Name w pz] kt pt] (.Tuple [a, b, c] k2 pt2) pos.line X.env = pure false := by rfl) :
    MS X (.Assign [.Tuple [.Name x px, .Name z py, .Name w pz] kt pt] (.Tuple [a, b, c] k2 pt2) pos) (sPar3 i j l m) := by
  refine ⟨⟨fun pins s σ H E I h => (ps_par3 hc hN hi hj hl hij hil hjl hx hy hz ha.run hw hs).run pins s σ H E I ?_⟩, fun a c env k h => ha.mono _ _ _ (fun ds hd => ?_) h⟩
  · obtain ⟨y, dr, F, env, re, hm⟩ := h
    refine ⟨y, dr, F, env, re, ha.mono _ _ _ (fun ds hd vs H' F' r1 s1 w => ?_) hm⟩
    have r := rvs_of w
    split at hd
    · cases r with
      | cons q1 q =>
        cases q with
        | cons q2 q =>
          cases q with
          | cons q3 q =>
            cases q
            exact ⟨_, _, _, rfl, hd dr F' _ H' (((r1.putV q1).putV q2).putV q3) s1.f⟩
    · exact hd.elim
  · split at hd
    · exact k.nx _ hd
    · exact hd
end
end Mi

namespace Mi
open PySem PySem.Spec L2
/-! ### walks whose turns are new pairs: enumerate, zip over lists, tuples, texts in any mix -/
section
/-- what is drawn from at `it` -/
structure Dr (P : Program) (w : World) (K : PySem.W.Frag) (it : Addr) (sa : List Addr) (n : Nat) (R : Hp → Prop) (tn : Nat → Heap → Prop) (yv : Nat → V → Prop) : Prop where
  obj : ∀ i h, tn i h → ∃ o, h.get? it = some o ∧ ∀ v, o.data ≠ .cell v
  keep : ∀ i h h', tn i h → (∀ o, h.get? it = some o → h'.get? it = some o) → tn i h'
  gen : ∀ (X : Cx), X.prog = P → X.w = w → X.K = K → X.calm = true → ∀ (pins : List (Addr × Obj)) (σ : L2.St) (H : Hp) (s : Shared), Inv X pins σ H s → R H →
    ∃ (Px : Nat → Value → Prop) (Sx : Heap → Prop), Draws P w X.A.in1 it (it :: sa) n Px (fun i h => tn i h ∧ Sx h) ∧ Sx s.heap ∧ ∀ i u, Px i u → ∃ v, RelV v u ∧ yv i v
variable {P : Program} {w : World} {K : PySem.W.Frag}
theorem in1_handled {A : Around} (h : A.handled = none) : A.in1.handled = none := h
theorem dr_list {a it : Addr} {xs : List V} (hne : a ≠ it) : Dr P w K it [a] xs.length (fun H => SqL K H a xs) (fun i h => h.IsListIter it a i) (fun i v => xs[i]? = some v) where
  obj := fun i h ⟨o, ho, hc, hd⟩ => ⟨o, ho, fun v q => by rw [hd] at q; cases q⟩
  keep := fun i h h' st k => st.at fun o q => k o q
  gen := by
    intro X hP hw hK hc pins σ H s I r
    subst hP hw hK
    obtain ⟨its, rv, p, hz⟩ := I.list r
    have D := Draws.list (prog := X.prog) (w := X.w) (A := X.A.in1) (in1_handled (I.ok.hd hc)) it a hne its.toArray
    have e : its.toArray.size = xs.length := by rw [List.size_toArray, rv.length]
    rw [e] at D
    refine ⟨_, _, D, p.isList, fun i u hu => ?_⟩
    have hu' : its[i]? = some u := by simpa using hu
    cases q : xs[i]? with
    | none =>
      have := List.getElem?_eq_none_iff.mp q
      have h2 := (List.getElem?_eq_some_iff.mp hu').1
      rw [← rv.length] at h2
      omega
    | some v =>
      obtain ⟨u', h1, h2⟩ := rv.get q
      rw [hu'] at h1; cases h1
      exact ⟨v, h2, rfl⟩
theorem dr_tuple {a it : Addr} {xs : List V} (hne : a ≠ it) : Dr P w K it [a] xs.length (fun H => SqT K H a xs) (fun i h => h.IsTupleIter it a i) (fun i v => xs[i]? = some v) where
  obj := fun i h ⟨o, ho, hc, hd⟩ => ⟨o, ho, fun v q => by rw [hd] at q; cases q⟩
  keep := fun i h h' st k => st.at fun o q => k o q
  gen := by
    intro X hP hw hK hc pins σ H s I r
    subst hP hw hK
    obtain ⟨its, rv, p, hz⟩ := I.tuple r
    have D := Draws.tuple (prog := X.prog) (w := X.w) (A := X.A.in1) (in1_handled (I.ok.hd hc)) it a hne its.toArray
    have e : its.toArray.size = xs.length := by rw [List.size_toArray, rv.length]
    rw [e] at D
    refine ⟨_, _, D, p, fun i u hu => ?_⟩
    have hu' : its[i]? = some u := by simpa using hu
    cases q : xs[i]? with
    | none =>
      have := List.getElem?_eq_none_iff.mp q
      have h2 := (List.getElem?_eq_some_iff.mp hu').1
      rw [← rv.length] at h2
      omega
    | some v =>
      obtain ⟨u', h1, h2⟩ := rv.get q
      rw [hu'] at h1; cases h1
      exact ⟨v, h2, rfl⟩
theorem dr_text {it : Addr} {x : Str} {t : Tok} : Dr P w K it [] x.cps.size (fun _ => True) (fun i h => h.IsStrIter it (strIterType x) x t i) (fun i v => ∃ c, x.cps[i]? = some c ∧ v = .str ⟨#[c]⟩) where
  obj := fun i h ⟨o, ho, hc, hd⟩ => ⟨o, ho, fun v q => by rw [hd] at q; cases q⟩
  keep := fun i h h' ⟨o, ho, r⟩ k => ⟨o, k o ho, r⟩
  gen := by
    intro X hP hw hK hc pins σ H s I r
    subst hP hw hK
    have D := Draws.text (prog := X.prog) (w := X.w) (A := X.A.in1) (in1_handled (I.ok.hd hc)) it x t
    refine ⟨_, fun _ => True, ⟨fun i h st => D.live i h st.1, fun i h h' st k => ⟨D.frame i h h' st.1 k, trivial⟩, fun i s Q E hi st hQ => D.item i s Q E hi st.1 fun x h' tk a b c => hQ x h' tk a ⟨b, trivial⟩ c, fun s Q E st hE => D.done s Q E st.1 hE⟩, trivial, fun i u ⟨c, u', h1, h2⟩ => ?_⟩
    subst h2
    exact ⟨.str ⟨#[c]⟩, ⟨_, rfl⟩, c, h1, rfl⟩
/-! a turn's pair is known as an object -/
/-- what a turn of pairs leaves -/
def PairAt (h0 : Heap) (T : Addr) (u1 u2 : Value) (h : Heap) : Prop := h0.objs.size ≤ T ∧ h.get? T = some (nT [u1, u2])
section
variable {prog : Program} {w : World} {A : Around} {elts : List Expr} {kk : Nat} {tpos : Pos}
theorem goes_en {it : Addr} {fp : List Addr} {n : Nat} {Px : Nat → Value → Prop} {St : Nat → Heap → Prop} (k0 : Int) (D : Draws prog w A.in1 it fp n Px St) (e : Addr) (hei : e ≠ it) (hef : e ∉ fp) (hif : it ∈ fp) :
    GoesN prog w A (.Tuple elts kk tpos) e (e :: fp) [e, it] n (fun i h0 v h => ∃ T t x, v = .ref T ∧ Px i x ∧ PairAt h0 T (.int (k0 + (i : Int)) t) x h) (fun i h => (∃ old, IsEnum h e it (k0 + (i : Int)) old) ∧ St i h) := by
  have G := GoesN.enumFrom (elts := elts) (x1 := kk) (pos := tpos) k0 D e hei hef hif
  refine ⟨G.sub, G.frame, fun i s Q E hi st hQ => ?_, G.stops, G.self⟩
  obtain ⟨⟨old, he⟩, hs⟩ := st
  refine wpAny_with_toks (n := s.toks) (Nat.le_refl _) (wpAny_pyNext_enum_itemC D he hs hi hei hef fun x h1 tk px ho st1 hT hz hk htk => ⟨_, rfl, wpAny_letOwnedTupleGo_enum ho fun h2 he2 sb => ?_⟩)
  have hlt : e < s.heap.objs.size := Heap.lt_size he
  replace sb : Heap.SameBut e h1 h2 := sb
  refine hQ _ h2 (tk + 1) ⟨_, tk, x, rfl, px, Nat.le_refl _, sb.extBut _ _ (Nat.ne_of_gt hlt) hT⟩ ⟨⟨x, ?_⟩, D.frame _ _ _ st1 fun b hb o q => sb.extBut _ _ (fun z => hef (z ▸ hb)) q⟩ (fun b o hb q => ?_) htk
  · have : k0 + ((i + 1 : Nat) : Int) = k0 + (i : Int) + 1 := by omega
    rw [this]; exact he2
  · exact sb.extBut _ _ (fun z => hb (by simp [z])) (hk b o (fun z => hb (by simp [z])) (fun z => hb (by simp [z])) q)
theorem goes_zp {z TI TT i1 i2 : Addr} {fp1 fp2 : List Addr} {n1 n2 : Nat} {P1 P2 : Nat → Value → Prop} {St1 St2 : Nat → Heap → Prop} (S : ZipSep2 z TI TT i1 i2 fp1 fp2) (D1 : Draws prog w A.in1 i1 fp1 n1 P1 St1) (D2 : Draws prog w A.in1 i2 fp2 n2 P2 St2) :
    GoesN prog w A (.Tuple elts kk tpos) z (z :: TI :: TT :: (fp1 ++ fp2)) [z, TT, i1, i2] (min n1 n2) (fun i h0 v h => ∃ T x y, v = .ref T ∧ (P1 i x ∧ P2 i y) ∧ PairAt h0 T x y h)
      (fun i h => IsZip h z TI TT .none ∧ IsTupOf2 h TI (.ref i1) (.ref i2) ∧ (∃ a1 a2, IsTupOf2 h TT a1 a2) ∧ St1 i h ∧ St2 i h) := by
  have G := GoesN.zip2 (elts := elts) (x1 := kk) (pos := tpos) S D1 D2
  refine ⟨G.sub, G.frame, fun i s Q E hi st hQ => ?_, G.stops, G.self⟩
  obtain ⟨hz, hI, ⟨a1, a2, hO⟩, s1, s2⟩ := st
  refine wpAny_with_toks (n := s.toks) (Nat.le_refl _) (wpAny_pyNext_zipD2_item S D1 D2 hz hI hO s1 s2 (by omega) (by omega) fun x y h1 tk p1 p2 hz1 hO1 t1 t2 hT hsz hk htk => ⟨_, rfl, wpAny_letOwnedTupleGo_zip hz1 fun h2 hz2 sb => ?_⟩)
  have hlt : z < s.heap.objs.size := Heap.lt_size hz
  replace sb : Heap.SameBut z h1 h2 := sb
  refine hQ _ h2 tk ⟨_, x, y, rfl, ⟨p1, p2⟩, Nat.le_refl _, sb.extBut _ _ (Nat.ne_of_gt hlt) hT⟩ ⟨hz2, sb.extBut _ _ S.TIz (hk _ _ S.TIz S.TITO S.TIi1 S.TIi2 hI), ⟨_, _, sb.extBut _ _ S.TOz hO1⟩, D1.over t1 sb S.zf1, D2.over t2 sb S.zf2⟩ (fun b o hb q => ?_) htk
  exact sb.extBut _ _ (fun c => hb (by simp [c])) (hk b o (fun c => hb (by simp [c])) (fun c => hb (by simp [c])) (fun c => hb (by simp [c])) (fun c => hb (by simp [c])) q)
end
/-- n turns of new pairs -/
def Jp (n : Nat) (R : Hp → Prop) (yp : Nat → V → V → Prop) : It :=
  ⟨fun i H => i < n ∧ R H, fun i H v H' => ∃ T x1 x2 o, TuO o ∧ v = .ref T ∧ H T = none ∧ H' = upd H T (.frz o (.tup [x1, x2])) ∧ yp i x1 x2, fun i H => i = n ∧ R H⟩
theorem turn_pair {elts : List Expr} {kk : Nat} {tpos : Pos} {n : Nat} {R : Hp → Prop} {yp : Nat → V → V → Prop} {fp wr : List Addr} {e : Addr} {tn : Nat → Heap → Prop} (hm : e ∈ fp)
    (obj : ∀ i h, tn i h → ∀ b ∈ fp, ∃ o, h.get? b = some o ∧ ∀ v, o.data ≠ .cell v) (keep : ∀ i h h', tn i h → (∀ b ∈ fp, ∀ o, h.get? b = some o → h'.get? b = some o) → tn i h') (sub : ∀ b ∈ wr, b ∈ fp)
    (gen : ∀ (X : Cx), X.prog = P → X.w = w → X.K = K → X.calm = true → ∀ (pins : List (Addr × Obj)) (σ : L2.St) (H : Hp) (s : Shared), Inv X pins σ H s → R H →
      ∃ (fpS : List Addr) (St : Nat → Heap → Prop) (Yp : Nat → Value → Value → Prop), GoesN P w X.A (.Tuple elts kk tpos) e fpS wr n (fun i h0 v h => ∃ T u1 u2, v = .ref T ∧ Yp i u1 u2 ∧ PairAt h0 T u1 u2 h) St ∧
        (∀ i, tn i s.heap → St i s.heap) ∧ (∀ i h, St i h → tn i h) ∧ ∀ i u1 u2, Yp i u1 u2 → ∃ x1 x2, RelV x1 u1 ∧ RelV x2 u2 ∧ yp i x1 x2)
    (self : ∀ (A : Around) (i : Nat) (s : Shared) (Q : Value → Shared → Prop) (E : Value → Shared → Prop), tn i s.heap → Q (.ref e) s → wpAny (model P w) A (pyIter (.ref e)) Q E s) :
    Turn P w K (.Tuple elts kk tpos) (Jp n R yp) fp e tn where
  mem := hm
  obj := obj
  keep := keep
  item := by
    intro X hP hw hK hc i pins s σ H E I hf st hg
    obtain ⟨fpS, St, Yp, G, t1, t2, t3⟩ := gen X hP hw hK hc pins σ H s I hg.2
    subst hP hw hK
    refine wpAny_mono (G.goes i s (fun v s2 => ∃ x H', Inv X pins σ H' s2 ∧ RelV x v ∧ (Jp n R yp).yld i H x H' ∧ tn (i + 1) s2.heap ∧ ∀ b ∈ fp, H' b = none) E hg.1 (t1 i st) fun v h' tk hY st' hk _ => ?_) (fun r s1 h => h) fun _ _ h => h
    obtain ⟨T, u1, u2, rfl, hy, hT, ho⟩ := hY
    obtain ⟨x1, x2, r1, r2, hyp⟩ := t3 i u1 u2 hy
    have new : ObjOk X.prog X.w (upd H T (.frz (nT [u1, u2]) (.tup [x1, x2]))) h' T (.frz (nT [u1, u2]) (.tup [x1, x2])) :=
      okT (.cons r1 (.cons r2 .nil)) (by show 2 ≤ sizeLine; decide) ho
    have I1 : Inv X pins σ (upd H T (.frz (nT [u1, u2]) (.tup [x1, x2]))) { s with heap := h', toks := tk } := I.turnedNew (ch := wr) hk (fun b hb => hf b (sub b hb)) hT new
    refine ⟨.ref T, _, I1, rfl, ⟨T, x1, x2, _, nT_TuO _, rfl, I.hok.fresh hT, rfl, hyp⟩, t2 _ _ st', fun b hb => ?_⟩
    obtain ⟨o', hb', _⟩ := obj i _ st b hb
    rw [upd_ne (Nat.ne_of_lt (Nat.lt_of_lt_of_le (Heap.lt_size hb') hT))]
    exact (hf b hb).1
  done := by
    intro X hP hw hK hc i pins s σ H E I hf st hg
    obtain ⟨rfl, hR⟩ := hg
    obtain ⟨fpS, St, Yp, G, t1, t2, t3⟩ := gen X hP hw hK hc pins σ H s I hR
    subst hP hw hK
    exact wpAny_mono (G.stops s (fun s1 => Inv X pins σ H s1) E (t1 _ st) fun h' tk hk _ => I.turnedL (ch := wr) hk fun b hb => hf b (sub b hb)) (fun r s1 h => h) fun _ _ h => h
  self := self
theorem walk_pair {n : Nat} {R : Hp → Prop} {yp : Nat → V → V → Prop} : Walk (Jp n R yp) n R (fun i H v H' => ∃ T x1 x2 o, TuO o ∧ v = .ref T ∧ H T = none ∧ H' = upd H T (.frz o (.tup [x1, x2])) ∧ yp i x1 x2) :=
  ⟨fun i H hi h => ⟨hi, h⟩, fun H h => ⟨rfl, h⟩, fun i H x H' _ _ h => h⟩
theorem turn_en {elts : List Expr} {kk : Nat} {tpos : Pos} {it e : Addr} {sa : List Addr} {n : Nat} {R : Hp → Prop} {tn : Nat → Heap → Prop} {yv : Nat → V → Prop} (k0 : Int) (D : Dr P w K it sa n R tn yv) (hne : e ≠ it) (hes : e ∉ sa) :
    Turn P w K (.Tuple elts kk tpos) (Jp n R fun i x1 x2 => x1 = .int (k0 + (i : Int)) ∧ yv i x2) [e, it] e (fun i h => (∃ old, IsEnum h e it (k0 + (i : Int)) old) ∧ tn i h) := by
  refine turn_pair (wr := [e, it]) (by simp) (fun i h st b hb => ?_) (fun i h h' st k => ?_) (fun b hb => hb) (fun X hP hw hK hc pins σ H s I r => ?_) (fun A i s Q E st h => ?_)
  · obtain ⟨⟨old, he⟩, hd⟩ := st
    have e' : b = e ∨ b = it := by simpa using hb
    rcases e' with rfl | rfl
    · exact ⟨_, he, fun v q => nomatch q⟩
    · exact D.obj i h hd
  · obtain ⟨⟨old, he⟩, hd⟩ := st
    exact ⟨⟨old, k e (by simp) _ he⟩, D.keep i h h' hd fun o q => k it (by simp) o q⟩
  · obtain ⟨Px, Sx, DD, hS, hy⟩ := D.gen X hP hw hK hc pins σ H s I r
    have G := goes_en (elts := elts) (kk := kk) (tpos := tpos) k0 DD e hne (by simp only [List.mem_cons, not_or]; exact ⟨hne, hes⟩) (by simp)
    refine ⟨_, _, fun i u1 u2 => (∃ t, u1 = Value.int (k0 + (i : Int)) t) ∧ Px i u2, G.mono fun i h₀ v h _ ⟨T, t, x, a, c, d⟩ => ⟨T, _, x, a, ⟨⟨t, rfl⟩, c⟩, d⟩, fun i st => ⟨st.1, st.2, hS⟩, fun i h st => ⟨st.1, st.2.1⟩, fun i u1 u2 ⟨⟨t, h1⟩, h2⟩ => ?_⟩
    obtain ⟨v, r1, r2⟩ := hy i u2 h2
    exact ⟨.int (k0 + (i : Int)), v, ⟨t, h1⟩, r1, rfl, r2⟩
  · obtain ⟨⟨_, he⟩, _⟩ := st
    exact wpAny_pyIter_enum he h
theorem turn_zp {elts : List Expr} {kk : Nat} {tpos : Pos} {z TI TO i1 i2 : Addr} {sa1 sa2 : List Addr} {n1 n2 : Nat} {R1 R2 : Hp → Prop} {tn1 tn2 : Nat → Heap → Prop} {yv1 yv2 : Nat → V → Prop} (D1 : Dr P w K i1 sa1 n1 R1 tn1 yv1) (D2 : Dr P w K i2 sa2 n2 R2 tn2 yv2)
    (S : ZipSep2 z TI TO i1 i2 (i1 :: sa1) (i2 :: sa2)) :
    Turn P w K (.Tuple elts kk tpos) (Jp (min n1 n2) (fun H => R1 H ∧ R2 H) fun i x1 x2 => yv1 i x1 ∧ yv2 i x2) [z, TI, TO, i1, i2] z (fun i h => IsZip h z TI TO .none ∧ IsTupOf2 h TI (.ref i1) (.ref i2) ∧ (∃ a1 a2, IsTupOf2 h TO a1 a2) ∧ tn1 i h ∧ tn2 i h) := by
  refine turn_pair (wr := [z, TO, i1, i2]) (by simp) (fun i h st b hb => ?_) (fun i h h' st k => ?_) (fun b hb => ?_) (fun X hP hw hK hc pins σ H s I r => ?_) (fun A i s Q E st h => ?_)
  · obtain ⟨hz, hTI, ⟨a1, a2, hTO⟩, h1, h2⟩ := st
    have e' : b = z ∨ b = TI ∨ b = TO ∨ b = i1 ∨ b = i2 := by simpa using hb
    rcases e' with rfl | rfl | rfl | rfl | rfl
    · exact ⟨_, hz, fun v q => nomatch q⟩
    · exact ⟨_, hTI, fun v q => nomatch q⟩
    · exact ⟨_, hTO, fun v q => nomatch q⟩
    · exact D1.obj i h h1
    · exact D2.obj i h h2
  · obtain ⟨hz, hTI, ⟨a1, a2, hTO⟩, h1, h2⟩ := st
    exact ⟨k z (by simp) _ hz, k TI (by simp) _ hTI, ⟨a1, a2, k TO (by simp) _ hTO⟩, D1.keep i h h' h1 fun o q => k i1 (by simp) o q, D2.keep i h h' h2 fun o q => k i2 (by simp) o q⟩
  · simp only [List.mem_cons, List.not_mem_nil, or_false] at hb ⊢
    rcases hb with h | h | h | h <;> simp [h]
  · obtain ⟨Px1, Sx1, DD1, hS1, hy1⟩ := D1.gen X hP hw hK hc pins σ H s I r.1
    obtain ⟨Px2, Sx2, DD2, hS2, hy2⟩ := D2.gen X hP hw hK hc pins σ H s I r.2
    have G := goes_zp (elts := elts) (kk := kk) (tpos := tpos) S DD1 DD2
    refine ⟨_, _, fun i u1 u2 => Px1 i u1 ∧ Px2 i u2, G, fun i st => ⟨st.1, st.2.1, st.2.2.1, ⟨st.2.2.2.1, hS1⟩, st.2.2.2.2, hS2⟩,
      fun i h st => ⟨st.1, st.2.1, st.2.2.1, st.2.2.2.1.1, st.2.2.2.2.1⟩, fun i u1 u2 ⟨h1, h2⟩ => ?_⟩
    obtain ⟨v1, r1, q1⟩ := hy1 i u1 h1
    obtain ⟨v2, r2, q2⟩ := hy2 i u2 h2
    exact ⟨v1, v2, r1, r2, q1, q2⟩
  · exact wpAny_pyIter_zip st.1 h
end
/-! enumerate(v) of anything -/
theorem meets_enumerate_newB1 {v : Value} {o : Obj} {H : Heap → Prop} (B : Begins v o H) :
    Meets (Builtin.«enumerate.__new__» ⟨[.type "enumerate", v], []⟩) (fun _ R s => H s.heap ∧
      R (.ok (.ret (.ref (s.heap.push o).objs.size))) { s with heap := (s.heap.push o).push { cls := .type "enumerate", data := .fields #[.none, .bool false, .ref s.heap.objs.size, rawInt 0, .none, .none] } }) :=
  .of_wp fun prog w A R s h => by
    obtain ⟨hp, g, d, tk, os⟩ := s; obtain ⟨h1, h⟩ := h
    have hsub := sub_enumerate
    have q1 : ∀ {A' : Around} {E : Value → Shared → Prop} {Q : Value → Shared → Prop}, Q (.ref hp.objs.size) ⟨hp.push o, g, d, tk, os⟩ → wpAny (model prog w) A' (pyIter v) Q E ⟨hp, g, d, tk, os⟩ :=
      fun q => B.iter prog w _ _ ⟨hp, g, d, tk, os⟩ _ h1 q
    wp_walk using q1
    refine wpAny_stack_any fun st => wpAny_pure ?_
    split
    · rename_i c _ _ _ _ _
      cases (c == Value.type "enumerate")
      · wp_walk using q1
        exact ⟨_, rfl, h⟩
      · wp_walk using q1
        exact ⟨_, rfl, h⟩
    · wp_walk using q1
      exact ⟨_, rfl, h⟩
theorem enum_begins1 {prog : Program} {w : World} {A : Around} {E : Value → Shared → Prop} {s : Shared} {v : Value} {o : Obj} {H : Heap → Prop} {Q : Value → Shared → Prop} (B : Begins v o H) (h1 : H s.heap)
    (h : ∀ h', IsEnum h' (s.heap.objs.size + 1) s.heap.objs.size 0 .none → h'.get? s.heap.objs.size = some o → h'.objs.size = s.heap.objs.size + 2 →
      (∀ b o, s.heap.get? b = some o → h'.get? b = some o) → Q (.ref (s.heap.objs.size + 1)) { s with heap := h' }) :
    wpAny (model prog w) A (call (.type "enumerate") [v]) Q E s := by
  refine callType_new F.called_enumerate (by decide) (F.typeCall_enumerate_1 _) (F.newCall_enumerate_1 _) (fun obj => F.args_object_init_2 obj _) F.entry_enumerate_new
    (meets_enumerate_newB1 B) ⟨h1, ?_⟩
  have hz : (s.heap.push o).objs.size = s.heap.objs.size + 1 := Heap.size_push ..
  show _ ∧ _
  rw [hz]
  have he : IsEnum ((s.heap.push o).push { cls := .type "enumerate", data := .fields #[.none, .bool false, .ref s.heap.objs.size, rawInt 0, .none, .none] }) (s.heap.objs.size + 1) s.heap.objs.size 0 .none := by
    have := Heap.get?_push_size (s.heap.push o) (o := { cls := .type "enumerate", data := .fields #[.none, .bool false, .ref s.heap.objs.size, rawInt 0, .none, .none] }) rfl
    rw [hz] at this; exact this
  refine ⟨⟨_, he, rfl⟩, h _ he (Heap.get?_push_of_some _ (Heap.get?_push_size _ B.free)) (by rw [Heap.size_push, hz]) fun b o x => Heap.get?_push_of_some _ (Heap.get?_push_of_some _ x)⟩
end Mi

namespace Mi
open PySem PySem.Spec L2
/-! ### what a loop or a comprehension goes through -/
def GOk (b : Bool) (dr : Option Addr) (F H : Hp) (G : Hp → Prop) : Prop :=
  (b = false → ∀ H1, Same F H1 → G H1) ∧ (b = true → ∀ H1, (∀ a o, H a = some o → some a ≠ dr → H1 a = some o) → G H1)
def YOk (K : Fg) (F : Hp) (ds : List D) (G : Hp → Prop) (Y : Nat → Hp → V → Hp → Prop) : Prop :=
  ∀ i H1 x H2, i < ds.length → G H1 → Y i H1 x H2 → ∀ y1 dr1 F1 env1 σ1, Re K y1 dr1 F1 env1 σ1 H1 → Same F F1 → ∃ F2, Ex dr1 F1 H1 F2 H2 ∧ Re K y1 dr1 F2 env1 σ1 H2 ∧ (∃ d, ds[i]? = some d ∧ Rv K F2 d x) ∧ Same H1 H2 ∧ ∀ D, F1 D = none → H1 D ≠ none → F2 D = none
def lI (K : Fg) (b : Bool) (m : SI) : TI := fun σ H R => ∃ y dr F env, Re K y dr F env σ H ∧ m env fun ds => ∀ J H' F' G Y, Re K y dr F' env σ H' → Ex dr F H F' H' → ds.length ≤ sizeLine → Walk J ds.length G Y → GOk b dr F' H' G → YOk K F' ds G Y → R J H'
structure MI (X : Cx) (b : Bool) (tg iter : Expr) (m : SI) : Prop where
  run : PI X tg iter (lI X.G b m)
  mono : ∀ env (P Q : List D → Prop), (∀ d, P d → Q d) → m env P → m env Q
section
variable {X : Cx} {b : Bool} {a c e tg iter : Expr} {ma mc me : SE} {pos : Pos}
/-- an iterable of any of the three kinds -/
def iAny (K : Fg) (tl : TE) : TI := fun σ H R => tl σ H fun x H1 => (∃ a, x = .ref a ∧ (∃ xs, SqL K H1 a xs) ∧ R (Itl K a) H1) ∨ (∃ a, x = .ref a ∧ (∃ xs, SqT K H1 a xs) ∧ R (Itt K a) H1) ∨ (∃ z, x = .str z ∧ R (Its z) H1)
theorem pi_any {l : Expr} {tl : TE} (hl : PE X l tl) : PI X tg l (iAny X.G tl) := by
  refine ⟨fun pins s σ H R I h => ?_⟩
  refine thn (hl.run pins s σ H _ I h) fun v s1 ⟨x, H1, I1, r1, q1⟩ => ?_
  rcases q1 with ⟨a, e, ⟨xs, hq⟩, q⟩ | ⟨a, e, ⟨xs, hq⟩, q⟩ | ⟨z, e, q⟩
  · subst e
    cases r1
    obtain ⟨its, rv, p, hz⟩ := I1.list hq
    refine wpAny_pyIter_list p.isList ?_
    refine ⟨s1.heap.objs.size, [s1.heap.objs.size], _, _, H1, rfl, I1.kept (t' := s1.toks) fun b o e => Heap.get?_push_of_some _ e, turn_list a _, ⟨_, Heap.get?_push_size _ rfl, rfl, rfl⟩, fun b hb => ?_, q⟩
    have e : b = s1.heap.objs.size := by simpa using hb
    subst e
    exact I1.fpOk (Nat.le_refl _) (I1.hok.fresh (Nat.le_refl _))
  · subst e
    cases r1
    obtain ⟨its, rv, p, hz⟩ := I1.tuple hq
    refine wpAny_pyIter_tuple (show s1.heap.IsTuple a its.toArray from p) ?_
    refine ⟨s1.heap.objs.size, [s1.heap.objs.size], _, _, H1, rfl, I1.kept (t' := s1.toks) fun b o e => Heap.get?_push_of_some _ e, turn_tuple a _, ⟨_, Heap.get?_push_size _ rfl, rfl, rfl⟩, fun b hb => ?_, q⟩
    have e : b = s1.heap.objs.size := by simpa using hb
    subst e
    exact I1.fpOk (Nat.le_refl _) (I1.hok.fresh (Nat.le_refl _))
  · subst e
    obtain ⟨t, rfl⟩ := r1
    cases ha : z.cps.all (· < 128)
    · exact wpAny_pyIter_wide ha (pi_one (tk := s1.toks) I1 _ (turn_str _ z t "str_iterator" (.inr rfl)) ⟨_, Heap.get?_push_size _ rfl, rfl, rfl⟩ q)
    · exact wpAny_pyIter_ascii ha (pi_one (tk := s1.toks) I1 _ (turn_str _ z t "str_ascii_iterator" (.inl rfl)) ⟨_, Heap.get?_push_size _ rfl, rfl, rfl⟩ q)
def chars (x : Str) : List D := x.cps.toList.map fun c => .str ⟨#[c]⟩
def itemsOf : D → Option (List D)
  | .list xs => some xs
  | .tuple xs => some xs
  | .str x => some (chars x)
  | _ => none
def iVal (m : SE) : SI := fun env Q => m env fun d => obL (itemsOf d) Q
theorem yAt_ok {F : Hp} {K : Fg} {ds : List D} {vs : List V} {G : Hp → Prop} (rv : Rvs K F ds vs) : YOk K F ds G (YAt vs) := by
  intro i H1 x H2 hi _ hy y1 dr1 F1 env1 σ1 re s
  obtain ⟨rfl, hx⟩ := hy
  obtain ⟨d, h1, h2⟩ := rv.get' hx
  exact ⟨F1, Ex.refl, re, ⟨d, h1, h2.mono s⟩, Same.refl _, fun _ h _ => h⟩
theorem gList {F H : Hp} {K : Fg} {b : Bool} {dr : Option Addr} {a : Addr} {vs : List V} (hb : b = false → F a = some (.lst vs)) (hH : H a = some (.lst vs)) (hd : some a ≠ dr) : GOk b dr F H (fun H1 => SqL K H1 a vs) :=
  ⟨fun z H1 s => SqL.of (s _ _ (hb z)), fun _ H1 k => SqL.of (k _ _ hH hd)⟩
theorem gTup {F H : Hp} {K : Fg} {b : Bool} {dr : Option Addr} {a : Addr} {vs : List V} (hF : SqT K F a vs) (hs : Same F H) (hd : ∀ a, dr = some a → F a = none) : GOk b dr F H (fun H1 => SqT K H1 a vs) := by
  refine ⟨fun _ H1 s => sqT_mono s hF, fun _ H1 k => ?_⟩
  have s1 : Same F H1 := fun c o e => k c o (hs c o e) fun z => by rw [hd c z.symm] at e; cases e
  exact sqT_mono s1 hF
/-- the list that is walked: no draw -/
theorem Vr.listD {K : Fg} {y : Cy} {dr : Option Addr} {F H : Hp} {env : En} {σ : L2.St} (re : Re K y dr F env σ H) {xs : List D} {v : V} (w : Vr K b F env σ (.list xs) v) : ∃ a vs, v = .ref a ∧ H a = some (.lst vs) ∧ xs.length ≤ sizeLine ∧ Rvs K F xs vs ∧ some a ≠ dr ∧ (b = false → F a = some (.lst vs)) := by
  rcases w with w | ⟨z, i, s, e1, e2, e3⟩
  · cases w with
    | lst h1 h2 h3 =>
      refine ⟨_, _, rfl, re.rf.sub _ _ h1, h2, h3, fun e => ?_, fun _ => h1⟩
      rw [(re.rf.drw _ e.symm).1] at h1; cases h1
  · obtain ⟨o, q1, q2⟩ := re.get e1
    cases s with
    | l zs =>
      cases e2
      obtain ⟨a, vs, h1, h2, h3, h4, _, _, h5⟩ := q2
      rw [e3] at q1; cases q1
      cases h1
      exact ⟨a, vs, rfl, h2, h3, h4, h5, fun q => by rw [z] at q; cases q⟩
    | _ => cases e2
theorem chars_len (x : Str) : (chars x).length = x.cps.size := by unfold chars; rw [List.length_map, Array.length_toList]
theorem yStr_ok {F : Hp} {K : Fg} {x : Str} {G : Hp → Prop} : YOk K F (chars x) G (fun i H v H' => H' = H ∧ ∃ c, x.cps[i]? = some c ∧ v = .str ⟨#[c]⟩) := by
  rintro i H1 v H2 hi _ ⟨rfl, c, hc, rfl⟩ y1 dr1 F1 env1 σ1 re s
  refine ⟨F1, Ex.refl, re, ⟨.str ⟨#[c]⟩, ?_, .str _ (by show 1 ≤ sizeLine; rw [sizeLine_eq]; decide)⟩, Same.refl _, fun _ h _ => h⟩
  unfold chars
  rw [List.getElem?_map, Array.getElem?_toList, hc]
  rfl
theorem mi_val (ha : ME X b a ma) : MI X b tg a (iVal ma) := by
  refine ⟨⟨fun pins s σ H R I h => (pi_any ha.run).run pins s σ H R I ?_⟩, fun env P Q k h => ha.mono _ _ _ (fun d hd => obL_mono k hd) h⟩
  obtain ⟨y, dr, F, env, re, hm⟩ := h
  refine ⟨y, dr, F, env, re, ha.mono _ _ _ (fun d hd v H' F' r1 s1 w => ?_) hm⟩
  cases d with
  | list xs =>
    obtain ⟨a, vs, rfl, h1, z, rv, nd, hF⟩ := w.listD r1
    refine .inl ⟨a, rfl, ⟨vs, SqL.of h1⟩, ?_⟩
    have hd : ∀ J H'' F'' G Y, _ := hd
    refine hd _ H' F' _ _ r1 s1 z (by rw [rv.length]; exact walk_list) (gList hF h1 nd) (yAt_ok rv)
  | tuple xs =>
    obtain ⟨a, vs, rfl, h1, z, rv⟩ := w.tuple r1
    refine .inr (.inl ⟨a, rfl, ⟨vs, re_tuple r1 h1⟩, ?_⟩)
    have hd : ∀ J H'' F'' G Y, _ := hd
    refine hd _ H' F' _ _ r1 s1 z (by rw [rv.length]; exact walk_tup) (gTup h1.sq r1.rf.sub fun a e => (r1.rf.drw a e).1) (yAt_ok rv)
  | str x =>
    refine .inr (.inr ⟨x, w.str.1, ?_⟩)
    have hd : ∀ J H'' F'' G Y, _ := hd
    refine hd _ H' F' _ _ r1 s1 (by rw [chars_len]; exact w.str.2) (by rw [chars_len]; exact walk_str) ⟨fun _ _ _ => trivial, fun _ _ _ => trivial⟩ yStr_ok
  | _ => exact hd.elim
/-! ranges -/
def rng (lo hi : Int) : List Int := (List.range (hi - lo).toNat).map fun i => lo + (i : Nat)
def dInts (ns : List Int) : List D := ns.map .int
def iR1 (m : SE) : SI := fun env Q => m env fun d => match d with
  | .int n => (n ≤ 16777216 ∧ -4611686018427387904 ≤ n) ∧ Q (dInts (rng 0 n))
  | _ => False
def iR2 (m m' : SE) : SI := fun env Q => m env fun d => m' env fun d' => match d, d' with
  | .int lo, .int hi => (-4611686018427387904 ≤ lo ∧ lo < 4611686018427387904 ∧ -4611686018427387904 ≤ hi ∧ hi < 4611686018427387904 ∧ hi - lo ≤ 16777216) ∧ Q (dInts (rng lo hi))
  | _, _ => False
theorem rng_len (lo hi : Int) : (dInts (rng lo hi)).length = (hi - lo).toNat := by unfold dInts rng; rw [List.length_map, List.length_map, List.length_range]
theorem yRng_ok {F : Hp} {K : Fg} {lo hi : Int} {G : Hp → Prop} : YOk K F (dInts (rng lo hi)) G (YFn fun i => .int (lo + (i : Int))) := by
  rintro i H1 v H2 hi' _ ⟨rfl, rfl⟩ y1 dr1 F1 env1 σ1 re s
  refine ⟨F1, Ex.refl, re, ⟨.int (lo + (i : Int)), ?_, .int _⟩, Same.refl _, fun _ h _ => h⟩
  rw [rng_len] at hi'
  unfold dInts rng
  rw [List.getElem?_map, List.getElem?_map, List.getElem?_range hi']
  rfl
theorem mi_r1 {p : Pos} (hg : Gl X "range") (hm : X.mg "range" = none) (ha : ME X true a ma) (hs : starEach [a] X.env = [(false, eval a X.env)] := by rfl) : MI X b tg (.Call (.Name "range" p) [a] [] pos) (iR1 ma) := by
  refine ⟨⟨fun pins s σ H R I h => (pi_range1 hg hm (pa_cons ha.run pa_nil hs) hs).run pins s σ H R I ?_⟩, fun env P Q k h => ha.mono _ _ _ (fun d hd => by cases d <;> first | exact ⟨hd.1, k _ hd.2⟩ | exact hd) h⟩
  obtain ⟨y, dr, F, env, re, hm⟩ := h
  refine ⟨y, dr, F, env, re, ha.mono _ _ _ (fun d hd v H' F' r1 s1 w => ?_) hm⟩
  cases d with
  | int n =>
    refine ⟨n, by rw [w.int], by have := hd.1; omega, by have := hd.1; omega, ?_⟩
    exact hd.2 (Itr 0 n.toNat) H' F' (fun _ => True) (YFn fun i => .int (0 + (i : Int))) r1 s1 (by have := hd.1; rw [rng_len, sizeLine_eq]; omega) (by rw [rng_len]; simpa using walk_range (lo := 0) (n := n.toNat)) ⟨fun _ _ _ => trivial, fun _ _ _ => trivial⟩ yRng_ok
  | _ => exact hd.elim
theorem mi_r2 {p : Pos} (hg : Gl X "range") (hm : X.mg "range" = none) (ha : ME X true a ma) (hc : ME X true c mc) (hs : starEach [a, c] X.env = [(false, eval a X.env), (false, eval c X.env)] := by rfl) (hs2 : starEach [c] X.env = [(false, eval c X.env)] := by rfl) :
    MI X b tg (.Call (.Name "range" p) [a, c] [] pos) (iR2 ma mc) := by
  refine ⟨⟨fun pins s σ H R I h => (pi_range2 hg hm (pa_cons ha.run (pa_cons hc.run pa_nil hs2) (by rw [hs, hs2])) hs hs2).run pins s σ H R I ?_⟩, fun env P Q k h => ha.mono _ _ _ (fun d hd => hc.mono _ _ _ (fun d' hd' => by cases d <;> cases d' <;> first | exact ⟨hd'.1, k _ hd'.2⟩ | exact hd') hd) h⟩
  obtain ⟨y, dr, F, env, re, hm⟩ := h
  refine ⟨y, dr, F, env, re, ha.mono _ _ _ (fun d hd v H' F' r1 s1 w => ?_) hm⟩
  refine ⟨y, dr, F', env, r1, hc.mono _ _ _ (fun d' hd' v' H2 F2 r2 s2 w' => ?_) hd⟩
  split at hd'
  · rename_i lo hi
    refine ⟨lo, hi, by rw [w.int, w'.int], by have := hd'.1; omega, ?_⟩
    exact hd'.2 (Itr lo (hi - lo).toNat) H2 F2 (fun _ => True) (YFn fun i => .int (lo + (i : Int))) r2 (s1.trans s2) (by have := hd'.1; rw [rng_len, sizeLine_eq]; omega) (by rw [rng_len]; exact walk_range) ⟨fun _ _ _ => trivial, fun _ _ _ => trivial⟩ yRng_ok
  · exact hd'.elim
/-! with a step -/
def rngN (lo hi c : Int) : Nat := if 0 < c then (if lo < hi then ((hi - lo - 1) / c + 1).toNat else 0) else (if hi < lo then ((lo - hi - 1) / (-c) + 1).toNat else 0)
def rngC (lo hi c : Int) : List Int := (List.range (rngN lo hi c)).map fun i => lo + (i : Nat) * c
theorem rngC_len (lo hi c : Int) : (dInts (rngC lo hi c)).length = rngN lo hi c := by unfold dInts rngC; rw [List.length_map, List.length_map, List.length_range]
theorem yRngC_ok {F : Hp} {K : Fg} {lo hi c : Int} {G : Hp → Prop} : YOk K F (dInts (rngC lo hi c)) G (YFn fun i => .int (lo + (i : Nat) * c)) := by
  rintro i H1 v H2 hi' _ ⟨rfl, rfl⟩ y1 dr1 F1 env1 σ1 re s
  refine ⟨F1, Ex.refl, re, ⟨.int (lo + (i : Nat) * c), ?_, .int _⟩, Same.refl _, fun _ h _ => h⟩
  rw [rngC_len] at hi'
  unfold dInts rngC
  rw [List.getElem?_map, List.getElem?_map, List.getElem?_range hi']
  rfl
def iR3 (m m' m'' : SE) : SI := fun env Q => m env fun d => m' env fun d' => m'' env fun d'' => match d, d', d'' with
  | .int lo, .int hi, .int c => (-1000000000000 ≤ lo ∧ lo ≤ 1000000000000 ∧ -1000000000000 ≤ hi ∧ hi ≤ 1000000000000 ∧ c ≠ 0 ∧ -1000000000 ≤ c ∧ c ≤ 1000000000 ∧ rngN lo hi c ≤ 16777216) ∧ Q (dInts (rngC lo hi c))
  | _, _, _ => False
theorem rgC_ok {lo hi c : Int} (h1 : -1000000000000 ≤ lo) (h2 : lo ≤ 1000000000000) (h3 : -1000000000000 ≤ hi) (h4 : hi ≤ 1000000000000) (h5 : c ≠ 0) (h6 : -1000000000 ≤ c) (h7 : c ≤ 1000000000) (h8 : rngN lo hi c ≤ 16777216) : RgC lo hi c (rngN lo hi c) := by
  have hsz : Builtin.Range.rangeSize lo hi c = rngN lo hi c := by
    unfold Builtin.Range.rangeSize rngN
    by_cases hc : 0 < c
    · simp only [gt_iff_lt, hc, if_true]
      split
      · rename_i hl
        have : 0 ≤ (hi - lo - 1) / c := Int.ediv_nonneg (by omega) (by omega)
        omega
      · rfl
    · simp only [gt_iff_lt, hc, if_false]
      split
      · rename_i hl
        have : 0 ≤ (lo - hi - 1) / (-c) := Int.ediv_nonneg (by omega) (by omega)
        omega
      · rfl
  refine ⟨h5, by omega, ?_, hsz⟩
  unfold Builtin.Range.small
  rw [hsz]
  simp only [Builtin.Range.rangeFitsLong, Bool.and_eq_true, Bool.or_eq_true, decide_eq_true_eq, beq_iff_eq]
  split <;> simp only [Bool.and_eq_true, decide_eq_true_eq] <;> omega
theorem mi_r3 {p : Pos} (hg : Gl X "range") (hm : X.mg "range" = none) (ha : ME X true a ma) (hc : ME X true c mc) (he : ME X true e me) (hs : starEach [a, c, e] X.env = (false, eval a X.env) :: starEach [c, e] X.env := by rfl) (hpl : (backTo pos (starEach [c, e] X.env)).any (·.1) = false := by rfl)
    (hs2 : starEach [c, e] X.env = (false, eval c X.env) :: starEach [e] X.env := by rfl) (hs3 : starEach [e] X.env = (false, eval e X.env) :: starEach [] X.env := by rfl) :
    MI X b tg (.Call (.Name "range" p) [a, c, e] [] pos) (iR3 ma mc me) := by
  refine ⟨⟨fun pins s σ H R I h => (pi_range3 hg hm (pa_cons ha.run (pa_cons hc.run (pa_cons he.run pa_nil hs3) hs2) hs) hs hpl).run pins s σ H R I ?_⟩, fun env P Q k h => ha.mono _ _ _ (fun d hd => hc.mono _ _ _ (fun d' hd' => he.mono _ _ _ (fun d'' hd'' => ?_) hd') hd) h⟩
  · obtain ⟨y, dr, F, env, re, hm⟩ := h
    refine ⟨y, dr, F, env, re, ha.mono _ _ _ (fun d hd v H' F' r1 s1 w => ?_) hm⟩
    refine ⟨y, dr, F', env, r1, hc.mono _ _ _ (fun d' hd' v' H2 F2 r2 s2 w' => ?_) hd⟩
    refine ⟨y, dr, F2, env, r2, he.mono _ _ _ (fun d'' hd'' v'' H3 F3 r3 s3 w'' => ?_) hd'⟩
    split at hd''
    · rename_i lo hi c
      obtain ⟨⟨q1, q2, q3, q4, q5, q6, q7, q8⟩, hq⟩ := hd''
      refine ⟨lo, hi, c, _, by rw [w.int, w'.int, w''.int], rgC_ok q1 q2 q3 q4 q5 q6 q7 q8, ?_⟩
      exact hq (Itc lo c (rngN lo hi c)) H3 F3 (fun _ => True) (YFn fun i => .int (lo + (i : Nat) * c)) r3 ((s1.trans s2).trans s3) (by rw [rngC_len, sizeLine_eq]; exact q8) (by rw [rngC_len]; exact walk_rangeC) ⟨fun _ _ _ => trivial, fun _ _ _ => trivial⟩ yRngC_ok
    · exact hd''.elim
  · split at hd''
    · exact ⟨hd''.1, k _ hd''.2⟩
    · exact hd''
/-! enumerate, zip -/
theorem yPair_ok {F : Hp} {K : Fg} {ds : List D} {G : Hp → Prop} {yp : Nat → V → V → Prop} (h : ∀ i x1 x2, i < ds.length → yp i x1 x2 → ∃ d1 d2, ds[i]? = some (.tuple [d1, d2]) ∧ Rv K F d1 x1 ∧ Rv K F d2 x2) :
    YOk K F ds G (fun i H v H' => ∃ T x1 x2 o, TuO o ∧ v = .ref T ∧ H T = none ∧ H' = upd H T (.frz o (.tup [x1, x2])) ∧ yp i x1 x2) := by
  rintro i H1 v H2 hi' _ ⟨T, x1, x2, o, to, rfl, hT, rfl, hy⟩ y1 dr1 F1 env1 σ1 re s
  obtain ⟨d1, d2, h1, h2, h3⟩ := h i x1 x2 hi' hy
  refine ⟨_, re.ex hT, re.laid hT, ⟨_, h1, Rv.tupNew (re.nF hT) to (by show 2 ≤ sizeLine; rw [sizeLine_eq]; decide) (.cons (h2.mono s) (.cons (h3.mono s) .nil))⟩, upd_grow hT, fun D hD hne => ?_⟩
  rw [upd_ne (fun z => hne (by rw [z]; exact hT))]
  exact hD
/-- a source to draw from: its values and how it begins -/
theorem src_of {K : Fg} {y : Cy} {dr : Option Addr} {F H : Hp} {env : En} {σ : L2.St} {d : D} {v : V} {xs : List D} {pins : List (Addr × Obj)} {s : Shared} {u : Value} (hK : X.G = K) (I : Inv X pins σ H s) (re : Re K y dr F env σ H) (w : Vr K b F env σ d v) (hu : RelV v u) (h : itemsOf d = some xs) :
    ∃ (o : Obj) (Bh : Heap → Prop) (R : Hp → Prop) (sa : List Addr) (yv : Nat → V → Prop), Begins u o Bh ∧ Bh s.heap ∧ R H ∧ (∀ c ∈ sa, c < s.heap.objs.size) ∧ xs.length ≤ sizeLine ∧ GOk b dr F H R ∧
      (∀ i x, i < xs.length → yv i x → ∃ d, xs[i]? = some d ∧ Rv K F d x) ∧ ∀ it, (∀ c ∈ sa, c ≠ it) → ∃ tn : Nat → Heap → Prop, Dr X.prog X.w K it sa xs.length R tn yv ∧ ∀ h, h.get? it = some o → tn 0 h := by
  subst hK
  cases d with
  | list ys =>
    cases h
    obtain ⟨a, vs, rfl, h1, z, rv, nd, hF⟩ := w.listD re
    cases hu
    obtain ⟨its, r, p, _⟩ := I.list (SqL.of h1)
    refine ⟨_, _, fun H => SqL X.G H a vs, [a], fun i v => vs[i]? = some v, begins_list a its.toArray, p.isList, SqL.of h1, ?_, z, gList hF h1 nd, fun i x hi hy => rv.get' hy, fun it hne => ?_⟩
    · intro c hc
      rw [List.mem_singleton.mp hc]
      exact p.lt
    · rw [rv.length]
      exact ⟨_, dr_list (hne a (by simp)), fun h e => ⟨_, e, rfl, rfl⟩⟩
  | tuple ys =>
    cases h
    obtain ⟨a, vs, rfl, h1, z, rv⟩ := w.tuple re
    cases hu
    obtain ⟨its, r, p, _⟩ := I.tuple (re_tuple re h1)
    refine ⟨_, _, fun H => SqT X.G H a vs, [a], fun i v => vs[i]? = some v, begins_tuple a its.toArray, p, re_tuple re h1, ?_, z, gTup h1.sq re.rf.sub fun a e => (re.rf.drw a e).1, fun i x hi hy => rv.get' hy, fun it hne => ?_⟩
    · intro c hc
      rw [List.mem_singleton.mp hc]
      exact p.lt
    · rw [rv.length]
      exact ⟨_, dr_tuple (hne a (by simp)), fun h e => ⟨_, e, rfl, rfl⟩⟩
  | str x =>
    cases h
    have hv := w.str.1
    subst hv
    obtain ⟨t, rfl⟩ := hu
    refine ⟨_, _, fun _ => True, [], fun i v => ∃ c, x.cps[i]? = some c ∧ v = .str ⟨#[c]⟩, begins_text x t, trivial, trivial, ?_, by rw [chars_len]; exact w.str.2, ⟨fun _ _ _ => trivial, fun _ _ _ => trivial⟩, fun i v hi ⟨c, hc, e⟩ => ?_, fun it hne => ?_⟩
    · intro c hc; cases hc
    · subst e
      refine ⟨.str ⟨#[c]⟩, ?_, .str _ (by show 1 ≤ sizeLine; rw [sizeLine_eq]; decide)⟩
      unfold chars
      rw [List.getElem?_map, Array.getElem?_toList, hc]
      rfl
    · rw [chars_len]
      exact ⟨_, dr_text, fun h e => ⟨_, e, rfl, rfl⟩⟩
  | _ => cases h
def pairD (p : D × D) : D := .tuple [p.1, p.2]
def enumL (k : Int) : List D → List D
  | [] => []
  | d :: r => .tuple [.int k, d] :: enumL (k + 1) r
theorem enumL_len : ∀ (k : Int) (xs : List D), (enumL k xs).length = xs.length
  | _, [] => rfl
  | k, _ :: r => congrArg (· + 1) (enumL_len (k + 1) r)
theorem enumL_get : ∀ (k : Int) (xs : List D) (i : Nat) (d : D), xs[i]? = some d → (enumL k xs)[i]? = some (.tuple [.int (k + (i : Int)), d])
  | _, [], _, _, h => by simp at h
  | k, a :: r, 0, d, h => by
    have : a = d := by simpa using h
    subst this
    show some (PyData.tuple [.int k, a]) = _
    simp
  | k, a :: r, i + 1, d, h => by
    show (enumL (k + 1) r)[i]? = _
    rw [enumL_get (k + 1) r i d (by simpa using h)]
    have : k + 1 + (i : Int) = k + ((i + 1 : Nat) : Int) := by omega
    rw [this]
def iEn (k : Int) (m : SE) : SI := fun env Q => m env fun d => obL (itemsOf d) fun xs => Q (enumL k xs)
theorem iEn_mono {k : Int} (ha : ME X b a ma) (env : En) (P Q : List D → Prop) (kk : ∀ d, P d → Q d) (h : iEn k ma env P) : iEn k ma env Q := ha.mono _ _ _ (fun d hd => obL_mono (fun xs h => kk _ h) hd) h
/-- behind the making of the enumerate object -/
theorem en_fin {elts : List Expr} {kk : Nat} {tpos : Pos} {k : Int} {y : Cy} {dr : Option Addr} {F F0 H0 H : Hp} {env : En} {σ : L2.St} {xs : List D} {pins : List (Addr × Obj)} {s : Shared} {h' : Heap} {R : It → Hp → Prop}
    {o : Obj} {Rr : Hp → Prop} {sa : List Addr} {yv : Nat → V → Prop} (I : Inv X pins σ H s) (re : Re X.G y dr F env σ H) (s0 : Ex dr F0 H0 F H)
    (q3 : Rr H) (q4 : ∀ c ∈ sa, c < s.heap.objs.size) (q5 : xs.length ≤ sizeLine) (q6 : GOk b dr F H Rr) (q7 : ∀ i x, i < xs.length → yv i x → ∃ d, xs[i]? = some d ∧ Rv X.G F d x)
    (q8 : ∀ it, (∀ c ∈ sa, c ≠ it) → ∃ tn : Nat → Heap → Prop, Dr X.prog X.w X.G it sa xs.length Rr tn yv ∧ ∀ h, h.get? it = some o → tn 0 h)
    (he : IsEnum h' (s.heap.objs.size + 1) s.heap.objs.size k .none) (ho : h'.get? s.heap.objs.size = some o) (hk : ∀ b o, s.heap.get? b = some o → h'.get? b = some o)
    (hR : ∀ J H' F' G Y, Re X.G y dr F' env σ H' → Ex dr F0 H0 F' H' → (enumL k xs).length ≤ sizeLine → Walk J (enumL k xs).length G Y → GOk b dr F' H' G → YOk X.G F' (enumL k xs) G Y → R J H') :
    PIE X pins σ (.Tuple elts kk tpos) R (.ref (s.heap.objs.size + 1)) { s with heap := h' } := by
  have I2 : Inv X pins σ H { s with heap := h' } := I.kept (t' := s.toks) hk
  obtain ⟨tn, DD, t0⟩ := q8 s.heap.objs.size fun c hc => Nat.ne_of_lt (q4 c hc)
  refine ⟨s.heap.objs.size + 1, [s.heap.objs.size + 1, s.heap.objs.size], _, _, H, rfl, I2, turn_en k DD (Nat.succ_ne_self _) (fun hc => absurd (q4 _ hc) (Nat.not_lt.mpr (Nat.le_succ _))), ⟨⟨.none, by simpa using he⟩, t0 _ ho⟩, fun b hb => ?_, ?_⟩
  · have e' : b = s.heap.objs.size + 1 ∨ b = s.heap.objs.size := by simpa using hb
    have hle : s.heap.objs.size ≤ b := by
      rcases e' with z | z
      · rw [z]; exact Nat.le_add_right _ _
      · rw [z]; exact Nat.le_refl _
    exact I.fpOk hle (I.hok.fresh hle)
  · refine hR _ H F Rr _ re s0 (by rw [enumL_len]; exact q5) (by rw [enumL_len]; exact walk_pair) q6 (yPair_ok fun i x1 x2 hi hy => ?_)
    rw [enumL_len] at hi
    obtain ⟨rfl, hy2⟩ := hy
    obtain ⟨d, h1, h2⟩ := q7 i x2 hi hy2
    exact ⟨.int (k + (i : Int)), d, enumL_get k xs i d h1, .int _, h2⟩
theorem mi_en {elts : List Expr} {kk : Nat} {tpos p : Pos} (hg : Gl X "enumerate") (hm : X.mg "enumerate" = none) (ha : ME X b a ma) (hs : starEach [a] X.env = [(false, eval a X.env)] := by rfl) : MI X b (.Tuple elts kk tpos) (.Call (.Name "enumerate" p) [a] [] pos) (iEn 0 ma) := by
  refine ⟨⟨fun pins s σ H R I h => ?_⟩, iEn_mono ha⟩
  obtain ⟨y, dr, F, env, re, hm2⟩ := h
  refine PyProof.Rows.Call_ (ld_blt I hg hm PyProof.Rows.boot_enumerate (PyProof.Rows.callWith_type1 (thn ((pa_cons ha.run pa_nil hs).run pos pins s σ H (fun vs H1 => ∃ y dr F' env' d v xs, vs = [v] ∧ Re X.G y dr F' env' σ H1 ∧ Vr X.G b F' env' σ d v ∧ itemsOf d = some xs ∧
      ∀ J H' F2 G Y, Re X.G y dr F2 env' σ H' → Ex dr F' H1 F2 H' → (enumL 0 xs).length ≤ sizeLine → Walk J (enumL 0 xs).length G Y → GOk b dr F2 H' G → YOk X.G F2 (enumL 0 xs) G Y → R J H') I ?_) fun us s1 ⟨vs, H1, I1, r1, q1⟩ => ?_) hs rfl))
  · refine ⟨y, dr, F, env, re, ha.mono _ _ _ (fun d hd v H' F' r1 s1 w => ?_) hm2⟩
    cases q : itemsOf d with
    | none => rw [q] at hd; exact hd.elim
    | some xs =>
      rw [q] at hd
      exact ⟨y, dr, F', env, d, v, xs, rfl, r1, w, q, fun J H2 F2 G Y r2 s2 => hd J H2 F2 G Y r2 (s1.trans s2)⟩
  · obtain ⟨y, dr, F, env, d, v, xs, rfl, re1, w, hx, hR⟩ := q1
    cases r1 with
    | cons r rr =>
      cases rr
      obtain ⟨o, Bh, Rr, sa, yv, q1, q2, q3, q4, q5, q6, q7, q8⟩ := src_of (X := X) rfl I1 re1 w r hx
      exact enum_begins1 q1 q2 fun h' he ho hsz hk => wpAny_pyIter_enum he (en_fin I1 re1 Ex.refl q3 q4 q5 q6 q7 q8 he ho hk hR)
end
end Mi

namespace Mi
open PySem PySem.Spec L2
section
variable {X : Cx} {b b' : Bool} {a c e tg iter : Expr} {ma mc me : SE} {pos : Pos}
/-! zip -/
def zipL : List D → List D → List D
  | x :: xs, z :: zs => .tuple [x, z] :: zipL xs zs
  | _, _ => []
theorem zipL_len : ∀ (xs zs : List D), (zipL xs zs).length = min xs.length zs.length
  | [], _ => by simp [zipL]
  | _ :: _, [] => by simp [zipL]
  | x :: xs, z :: zs => by
    show (zipL xs zs).length + 1 = _
    rw [zipL_len xs zs]
    simp only [List.length_cons]
    omega
theorem zipL_get : ∀ (xs zs : List D) (i : Nat) (d d' : D), xs[i]? = some d → zs[i]? = some d' → (zipL xs zs)[i]? = some (.tuple [d, d'])
  | [], _, _, _, _, h, _ => by simp at h
  | _ :: _, [], _, _, _, _, h => by simp at h
  | x :: xs, z :: zs, 0, d, d', h, h' => by
    have h1 : x = d := by simpa using h
    have h2 : z = d' := by simpa using h'
    subst h1; subst h2; rfl
  | x :: xs, z :: zs, i + 1, d, d', h, h' => zipL_get xs zs i d d' (by simpa using h) (by simpa using h')
def iZp (m m' : SE) : SI := fun env Q => m env fun d => m' env fun d' => obL (itemsOf d) fun xs => obL (itemsOf d') fun zs => Q (zipL xs zs)
theorem mi_zip {elts : List Expr} {kk : Nat} {tpos p : Pos} (hg : Gl X "zip") (hm : X.mg "zip" = none) (ha : ME X b a ma) (hc : ME X b c mc)
    (hs : starEach [a, c] X.env = (false, eval a X.env) :: starEach [c] X.env := by rfl) (hpl : (backTo pos (starEach [c] X.env)).any (·.1) = false := by rfl) (hs2 : starEach [c] X.env = (false, eval c X.env) :: starEach [] X.env := by rfl) :
    MI X b (.Tuple elts kk tpos) (.Call (.Name "zip" p) [a, c] [] pos) (iZp ma mc) := by
  refine ⟨⟨fun pins s σ H R I h => ?_⟩, fun env P Q k h => ha.mono _ _ _ (fun d hd => hc.mono _ _ _ (fun d' hd' => obL_mono (fun xs h => obL_mono (fun zs h => k _ h) h) hd') hd) h⟩
  obtain ⟨y, dr, F, env, re, hm2⟩ := h
  refine PyProof.Rows.Call_ (ld_blt I hg hm PyProof.Rows.boot_zip (PyProof.Rows.callWith_type1 (thn ((pa_cons ha.run (pa_cons hc.run pa_nil hs2) hs).run pos pins s σ H (fun vs H1 => ∃ y dr F' env' d v d' v' xs zs, vs = [v, v'] ∧ Re X.G y dr F' env' σ H1 ∧ Vr X.G b F' env' σ d v ∧ itemsOf d = some xs ∧ Vr X.G b F' env' σ d' v' ∧ itemsOf d' = some zs ∧
      ∀ J H' F2 G Y, Re X.G y dr F2 env' σ H' → Ex dr F' H1 F2 H' → (zipL xs zs).length ≤ sizeLine → Walk J (zipL xs zs).length G Y → GOk b dr F2 H' G → YOk X.G F2 (zipL xs zs) G Y → R J H') I ?_) fun us s1 ⟨vs, H1, I1, r1, q1⟩ => ?_) hs hpl))
  · refine ⟨y, dr, F, env, re, ha.mono _ _ _ (fun d hd v H' F' r1 s1 w => ?_) hm2⟩
    refine ⟨y, dr, F', env, r1, hc.mono _ _ _ (fun d' hd' v' H2 F2 r2 s2 w' => ?_) hd⟩
    cases q : itemsOf d with
    | none => rw [q] at hd'; exact hd'.elim
    | some xs =>
      rw [q] at hd'
      cases q' : itemsOf d' with
      | none => rw [q'] at hd'; exact (show False from hd').elim
      | some zs =>
        rw [q'] at hd'
        exact ⟨y, dr, F2, env, d, v, d', v', xs, zs, rfl, r2, w.mono s2, q, w', q', fun J H3 F3 G Y r3 s3 => (show ∀ J H' F' G Y, _ from hd') J H3 F3 G Y r3 ((s1.trans s2).trans s3)⟩
  · obtain ⟨y, dr, F, env, d, v, d', v', xs, zs, rfl, re1, w, hx, w', hx', hR⟩ := q1
    cases r1 with
    | cons r rr =>
      cases rr with
      | cons r' rr =>
        cases rr
        obtain ⟨o1, B1, R1, sa1, yv1, a1, a2, a3, a4, a5, a6, a7, a8⟩ := src_of (X := X) rfl I1 re1 w r hx
        obtain ⟨o2, B2, R2, sa2, yv2, b1, b2, b3, b4, b5, b6, b7, b8⟩ := src_of (X := X) rfl I1 re1 w' r' hx'
        refine zip_begins2 a1 b1 a2 b2 fun h' hz hTI hTO h1 h2 hsz hk => wpAny_pyIter_zip hz ?_
        have I2 : Inv X pins σ H1 { s1 with heap := h' } := I1.kept (t' := s1.toks) hk
        obtain ⟨tn1, D1, t1⟩ := a8 s1.heap.objs.size fun c hc => Nat.ne_of_lt (a4 c hc)
        obtain ⟨tn2, D2, t2⟩ := b8 (s1.heap.objs.size + 1) fun c hc => Nat.ne_of_lt (Nat.lt_succ_of_lt (b4 c hc))
        have no1 : ∀ j, s1.heap.objs.size + j ∉ sa1 := fun j hc => absurd (a4 _ hc) (Nat.not_lt.mpr (Nat.le_add_right _ _))
        have no2 : ∀ j, s1.heap.objs.size + j ∉ sa2 := fun j hc => absurd (b4 _ hc) (Nat.not_lt.mpr (Nat.le_add_right _ _))
        have nj : ∀ {i j : Nat}, i ≠ j → (s1.heap.objs.size + i : Nat) ≠ s1.heap.objs.size + j := fun {i j} h z => h (Nat.add_left_cancel z)
        have S : ZipSep2 (s1.heap.objs.size + 4) (s1.heap.objs.size + 2) (s1.heap.objs.size + 3) s1.heap.objs.size (s1.heap.objs.size + 1) (s1.heap.objs.size :: sa1) ((s1.heap.objs.size + 1) :: sa2) := by
          refine ⟨nj (by decide), nj (by decide), nj (by decide), nj (j := 0) (by decide), List.mem_cons_self, ?_, ?_, nj (by decide), List.mem_cons_self, ?_, ?_, ?_, ?_⟩
          all_goals (simp only [List.mem_cons, not_or])
          · exact ⟨nj (j := 0) (by decide), no1 4⟩
          · exact ⟨nj (j := 0) (by decide), no1 3⟩
          · exact ⟨nj (by decide), no2 4⟩
          · exact ⟨nj (by decide), no2 3⟩
          · exact ⟨nj (i := 0) (by decide), no2 0⟩
          · exact ⟨nj (j := 0) (by decide), no1 1⟩
        refine ⟨s1.heap.objs.size + 4, [s1.heap.objs.size + 4, s1.heap.objs.size + 2, s1.heap.objs.size + 3, s1.heap.objs.size, s1.heap.objs.size + 1], _, _, H1, rfl, I2, turn_zp D1 D2 S, ⟨hz, hTI, ⟨_, _, hTO⟩, t1 _ h1, t2 _ h2⟩, fun c hcm => ?_, ?_⟩
        · have e' : c = s1.heap.objs.size + 4 ∨ c = s1.heap.objs.size + 2 ∨ c = s1.heap.objs.size + 3 ∨ c = s1.heap.objs.size ∨ c = s1.heap.objs.size + 1 := by simpa using hcm
          have hle : s1.heap.objs.size ≤ c := by
            rcases e' with z | z | z | z | z
            · rw [z]; exact Nat.le_add_right _ _
            · rw [z]; exact Nat.le_add_right _ _
            · rw [z]; exact Nat.le_add_right _ _
            · rw [z]; exact Nat.le_refl _
            · rw [z]; exact Nat.le_add_right _ _
          exact I1.fpOk hle (I1.hok.fresh hle)
        · refine hR _ H1 F (fun H => R1 H ∧ R2 H) _ re1 Ex.refl (by rw [zipL_len]; exact Nat.le_trans (Nat.min_le_left _ _) a5) (by rw [zipL_len]; exact walk_pair) ⟨fun z H s => ⟨a6.1 z H s, b6.1 z H s⟩, fun z H k => ⟨a6.2 z H k, b6.2 z H k⟩⟩ (yPair_ok fun i x1 x2 hi hy => ?_)
          rw [zipL_len] at hi
          obtain ⟨d1, g1, g2⟩ := a7 i x1 (by omega) hy.1
          obtain ⟨d2, g3, g4⟩ := b7 i x2 (by omega) hy.2
          exact ⟨d1, d2, zipL_get xs zs i d1 d2 g1 g3, g2, g4⟩
/-! ### for, while -/
def forGo (g : SG) (body : SS) (K : Ks) : List D → En → Prop
  | [], env => K.nx env
  | d :: ds, env => g d env fun e1 => body ⟨fun e => forGo g body K ds e, K.rt, K.nx, fun e => forGo g body K ds e⟩ e1
def sFor (src : SI) (g : SG) (body : SS) : SS := fun K env => src env fun ds => forGo g body K ds env
variable {ts : List Nat} {g : SG} {m : SS} {body : List Stmt} {src : SI}
theorem forGo_mono (hg : ∀ d env (P Q : En → Prop), (∀ e, P e → Q e) → g d env P → g d env Q) (hb : ∀ (a c : Ks) env, KLe a c → m a env → m c env) {a c : Ks} (k : KLe a c) : ∀ (ds : List D) (env : En), forGo g m a ds env → forGo g m c ds env
  | [], env, h => k.nx _ h
  | d :: ds, env, h => hg _ _ _ _ (fun e he => hb ⟨fun e => forGo g m a ds e, a.rt, a.nx, fun e => forGo g m a ds e⟩ _ e ⟨fun e h => forGo_mono hg hb k ds e h, k.rt, k.nx, fun e h => forGo_mono hg hb k ds e h⟩ he) h
theorem ms_for (hp : PassesOwn (model X.prog X.w) X.A X.env X.xe) (hc : X.calm = true) (hi : MI X false tg iter src) (hg : MG X ts tg g) (hb : MSs X body m) (hs : ∀ x, foldedSetIterable iter X.env x = pure x := by intro _; rfl) : MS X (.For tg iter body [] pos) (sFor src g m) := by
  refine ⟨⟨fun pins s σ H E I h => (ps_for hp hc hi.run hg.run hb.run hs).run pins s σ H E I ?_⟩, fun a c env k h => hi.mono _ _ _ (fun ds hd => forGo_mono hg.mono hb.mono k ds env hd) h⟩
  obtain ⟨y, dr, F, env, re, hm⟩ := h
  refine ⟨y, dr, F, env, re, hi.mono _ _ _ (fun ds hds J H' F' G Y re' s' hz W gok yok => ?_) hm⟩
  refine for_it W (fun i σ1 H1 => ∃ dr1 F1 env1, Re X.G y dr1 F1 env1 σ1 H1 ∧ Same F' F1 ∧ forGo g m (kS X.G y F E) (ds.drop i) env1) ⟨dr, F', env, re', Same.refl _, by simpa using hds⟩ (fun i σ1 H1 _ ⟨dr1, F1, env1, r1, s1, _⟩ => gok.1 rfl H1 (s1.trans r1.rf.sub)) (fun i x σ1 H1 H2 hi' ⟨dr1, F1, env1, r1, s1, hf⟩ hy => ?_) (fun σ1 H1 ⟨dr1, F1, env1, r1, s1, hf⟩ => ?_)
  · obtain ⟨F2, s2, r2, ⟨d, hd, rv⟩, _⟩ := yok i H1 x H2 hi' (gok.1 rfl H1 (s1.trans r1.rf.sub)) hy y dr1 F1 env1 σ1 r1 s1
    have e1 : ds.drop i = d :: ds.drop (i + 1) := by
      have hlt := (List.getElem?_eq_some_iff.mp hd).1
      rw [List.drop_eq_getElem_cons hlt, (List.getElem?_eq_some_iff.mp hd).2]
    rw [e1] at hf
    have hf : g d env1 fun e1 => m ⟨fun e => forGo g m (kS X.G y F E) (ds.drop (i + 1)) e, kR X.G y E.rt, kN X.G y F E.nx, fun e => forGo g m (kS X.G y F E) (ds.drop (i + 1)) e⟩ e1 := hf
    refine ⟨y, dr1, F2, env1, d, r2, rv, hg.mono _ _ _ _ (fun e he F3 σ3 H3 r3 s3 _ => ?_) hf⟩
    refine ⟨y, dr1, F3, e, r3, hb.mono ⟨fun e => forGo g m (kS X.G y F E) (ds.drop (i + 1)) e, kR X.G y E.rt, kN X.G y F E.nx, fun e => forGo g m (kS X.G y F E) (ds.drop (i + 1)) e⟩ _ _ ⟨fun e4 h4 dr4 F4 σ4 H4 r4 s4 => ?_, fun _ h => h, fun e4 h4 dr4 F4 σ4 H4 r4 s4 => ?_, fun e4 h4 dr4 F4 σ4 H4 r4 s4 => ?_⟩ he⟩
    · exact ⟨dr4, F4, e4, r4, ((s1.trans s2.f).trans s3.f).trans s4, h4⟩
    · exact h4 dr4 F4 σ4 H4 r4 ((((s'.f.trans s1).trans s2.f).trans s3.f).trans s4)
    · exact ⟨dr4, F4, e4, r4, ((s1.trans s2.f).trans s3.f).trans s4, h4⟩
  · rw [List.drop_length] at hf
    exact hf dr1 F1 σ1 H1 r1 (s'.f.trans s1)
def whGo (t : SB) (body : SS) (K : Ks) : Nat → En → Prop
  | 0, _ => False
  | n + 1, env => t env fun k => if k = true then body ⟨fun e => whGo t body K n e, K.rt, K.nx, fun e => whGo t body K n e⟩ env else K.nx env
def sWhile (t : SB) (body : SS) : SS := fun K env => ∃ n, whGo t body K n env
theorem whGo_mono {t : SB} (ht : ∀ env (P Q : Bool → Prop), (∀ d, P d → Q d) → t env P → t env Q) (hb : ∀ (a c : Ks) env, KLe a c → m a env → m c env) {a c : Ks} (k : KLe a c) : ∀ (n : Nat) (env : En), whGo t m a n env → whGo t m c n env
  | 0, env, h => h
  | n + 1, env, h => ht _ _ _ (fun b hb' => by
      cases b with
      | true => rw [if_pos rfl] at hb' ⊢; exact hb ⟨fun e => whGo t m a n e, a.rt, a.nx, fun e => whGo t m a n e⟩ _ env ⟨fun e h => whGo_mono ht hb k n e h, k.rt, k.nx, fun e h => whGo_mono ht hb k n e h⟩ hb'
      | false => rw [if_neg Bool.false_ne_true] at hb' ⊢; exact k.nx _ hb') h
theorem ms_while {t : Expr} {tt : SB} (hp : PassesOwn (model X.prog X.w) X.A X.env X.xe) (ht : MT X t tt) (hb : MSs X body m) : MS X (.While t body [] pos) (sWhile tt m) := by
  refine ⟨⟨fun pins s σ H E I h => (ps_while hp ht.run hb.run).run pins s σ H E I ?_⟩, fun a c env k ⟨n, h⟩ => ⟨n, whGo_mono ht.mono hb.mono k n env h⟩⟩
  obtain ⟨y, dr, F, env, re, n0, hm⟩ := h
  refine ⟨fun n σ1 H1 => ∃ dr1 F1 env1, Re X.G y dr1 F1 env1 σ1 H1 ∧ Same F F1 ∧ whGo tt m (kS X.G y F E) n env1, ⟨n0, dr, F, env, re, Same.refl _, hm⟩, ?_⟩
  rintro n σ1 H1 ⟨dr1, F1, env1, r1, s1, hw⟩
  cases n with
  | zero => exact hw.elim
  | succ n =>
    refine ⟨y, dr1, F1, env1, r1, ht.mono _ _ _ (fun k hk H2 F2 r2 s2 => ?_) hw⟩
    cases k with
    | true =>
      rw [if_pos rfl] at hk ⊢
      refine ⟨fun σ' H' => ∃ dr1 F1 env1, Re X.G y dr1 F1 env1 σ' H' ∧ Same F F1 ∧ whGo tt m (kS X.G y F E) n env1, fun σ' H' h => ⟨n, Nat.lt_succ_self _, h⟩, ?_⟩
      refine ⟨y, dr1, F2, env1, r2, hb.mono ⟨fun e => whGo tt m (kS X.G y F E) n e, (kS X.G y F E).rt, (kS X.G y F E).nx, fun e => whGo tt m (kS X.G y F E) n e⟩ _ _ ⟨fun e4 h4 dr4 F4 σ4 H4 r4 s4 => ?_, fun _ h => h, fun e4 h4 dr4 F4 σ4 H4 r4 s4 => ?_, fun e4 h4 dr4 F4 σ4 H4 r4 s4 => ?_⟩ hk⟩
      · exact ⟨dr4, F4, e4, r4, (s1.trans s2.f).trans s4, h4⟩
      · exact h4 dr4 F4 σ4 H4 r4 ((s1.trans s2.f).trans s4)
      · exact ⟨dr4, F4, e4, r4, (s1.trans s2.f).trans s4, h4⟩
    | false =>
      rw [if_neg Bool.false_ne_true] at hk ⊢
      exact hk dr1 F2 σ1 H2 r2 (s1.trans s2.f)
/-! ### comprehensions -/
structure MTs (X : Cx) (es : List Expr) (m : SB) : Prop where
  run : PTs X es (lT X.G m)
  mono : ∀ env (P Q : Bool → Prop), (∀ d, P d → Q d) → m env P → m env Q
def tYes' : SB := fun _ Q => Q true
theorem mts_nil : MTs X [] tYes' := by
  refine ⟨⟨fun pins s σ H Q I h => pts_nil.run pins s σ H Q I ?_⟩, fun env P Q k h => k _ h⟩
  obtain ⟨y, dr, F, env, re, hm⟩ := h
  exact hm H F re Ex.refl
theorem mts_one {t : SB} (h : MT X c t) : MTs X [c] t := ⟨pts_one h.run, h.mono⟩
def lcGo (g : SG) (t : SB) (el : SE) (env : En) : List D → (List D → Prop) → Prop
  | [], Q => Q []
  | d :: ds, Q => g d env fun e1 => t e1 fun k => if k = true then el e1 fun r => lcGo g t el env ds fun rs => Q (r :: rs) else lcGo g t el env ds Q
def sLc (src : SI) (own : List Nat) (g : SG) (t : SB) (el : SE) : SL := fun env Q => src env fun ds => lcGo g t el (wipeE env own) ds Q
theorem lcGo_mono {t : SB} {el : SE} (hg : ∀ d env (P Q : En → Prop), (∀ e, P e → Q e) → g d env P → g d env Q) (ht : ∀ env (P Q : Bool → Prop), (∀ d, P d → Q d) → t env P → t env Q) (he : ∀ env (P Q : D → Prop), (∀ d, P d → Q d) → el env P → el env Q) (env : En) :
    ∀ (ds : List D) (P Q : List D → Prop), (∀ r, P r → Q r) → lcGo g t el env ds P → lcGo g t el env ds Q
  | [], P, Q, k, h => k _ h
  | d :: ds, P, Q, k, h => hg _ _ _ _ (fun e1 h1 => ht _ _ _ (fun b hb => by
      cases b with
      | true => rw [if_pos rfl] at hb ⊢; exact he _ _ _ (fun r hr => lcGo_mono hg ht he env ds _ _ (fun rs h => k _ h) hr) hb
      | false => rw [if_neg Bool.false_ne_true] at hb ⊢; exact lcGo_mono hg ht he env ds _ _ k hb) h1) h
/-- into a block: all but one's own objects stands still -/
theorem Re.blkIn {K : Fg} {y : Cy} {dr : Option Addr} {F H : Hp} {env : En} {σ : L2.St} (re : Re K y dr F env σ H) (own : List Nat) :
    ∃ y', Re K y' dr F (wipeE env own) (wipe σ own) H ∧ ∀ (F' H' : Hp) (env2 : En) (σ2 : L2.St), Re K y' dr F' env2 σ2 H' → wipeE env2 own = wipeE env own → wipe σ2 own = wipe σ own → Same F F' →
      Re K y dr F' env σ H' ∧ (∀ p o, H p = some o → some p ≠ dr → (∀ (i : Nat) (s : Sl), env[i]? = some s → s.own = true → σ[i]? ≠ some (some (.ref p))) → H' p = some o) ∧ (∀ p, F p = none → H p ≠ none → F' p = none ∨ ∃ (i : Nat) (s : Sl), env[i]? = some s ∧ s.own = true ∧ σ[i]? = some (some (.ref p))) := by
  let OA : Addr → Prop := fun a => ∃ (i : Nat) (s : Sl), (wipeE env own)[i]? = some s ∧ s.own = true ∧ (wipe σ own)[i]? = some (some (.ref a))
  have wg : ∀ {i : Nat} {s : Sl}, (wipeE env own)[i]? = some s → s.own = true → i ∉ own ∧ env[i]? = some s := fun {i s} h w => by
    have hl : i < env.length := by rw [← wipeE_length env own]; exact (List.getElem?_eq_some_iff.mp h).1
    have hn : i ∉ own := fun hi => by
      rw [wipeE_in hi hl] at h; cases h; cases w
    exact ⟨hn, by rw [← wipeE_get hn]; exact h⟩
  have oa : ∀ {a : Addr}, OA a → ∃ (i : Nat) (s : Sl), i ∉ own ∧ env[i]? = some s ∧ s.own = true ∧ σ[i]? = some (some (.ref a)) := fun {a} ⟨i, s, h1, h2, h3⟩ => by
    obtain ⟨hn, h4⟩ := wg h1 h2
    exact ⟨i, s, hn, h4, h2, by rw [← wipe_get hn]; exact h3⟩
  classical
  let H0 : Hp := fun a => if OA a then none else H a
  have h0s : ∀ {a : Addr} {o : HO}, H0 a = some o → H a = some o := fun {a o} h => by
    show H a = some o
    have h : (if OA a then none else H a) = some o := h
    split at h
    · cases h
    · exact h
  have h0n : ∀ {a : Addr}, ¬ OA a → H0 a = H a := fun {a} h => if_neg h
  have h0o : ∀ {a : Addr}, OA a → H0 a = none := fun {a} h => if_pos h
  refine ⟨⟨F, H0, dr⟩, ⟨⟨re.rf.sub, Same.refl _, fun a h => .inl h, fun a o h _ => h0s h, fun a h => ?_, re.rf.drw, .inr rfl, fun a h => .inl h⟩, by rw [wipeE_length, wipe_length]; exact re.len, fun i s o h1 h2 => ?_, fun i j a s1 s2 h1 h2 o1 o2 h3 h4 => ?_⟩, fun F' H' env2 σ2 r2 we ws sF => ?_⟩
  · cases q : H0 a with
    | none => exact absurd q h
    | some o => rw [h0s q]; simp
  · by_cases hs : s.own = true
    · obtain ⟨hn, h4⟩ := wg h1 hs
      rw [wipe_get hn] at h2
      refine (re.slot i s o h4 h2).keep (Same.refl _) fun a ha w => ?_
      obtain ⟨c, e1, _, e3, _⟩ := (re.slot i s o h4 h2).there w
      rw [ha] at e1; cases e1
      exact ⟨rfl, e3, h0o ⟨i, s, h1, w, by rw [wipe_get hn, h2, ha]⟩⟩
    · by_cases hi : i ∈ own
      · have hl : i < env.length := by rw [← wipeE_length env own]; exact (List.getElem?_eq_some_iff.mp h1).1
        rw [wipeE_in hi hl] at h1; cases h1
        trivial
      · rw [wipeE_get hi] at h1
        rw [wipe_get hi] at h2
        exact (re.slot i s o h1 h2).keep (Same.refl _) fun a ha w => absurd w hs
  · obtain ⟨n1, e1⟩ := wg h1 o1
    obtain ⟨n2, e2⟩ := wg h2 o2
    rw [wipe_get n1] at h3
    rw [wipe_get n2] at h4
    exact re.sep i j a s1 s2 e1 e2 o1 o2 h3 h4
  · have nF : ∀ p, F p = none → H p ≠ none → F' p = none ∨ OA p := fun p h1 h2 => by
      cases q : F' p with
      | none => exact .inl rfl
      | some o =>
        rcases r2.rf.new p (by rw [q]; simp) with z | z
        · exact absurd h1 z
        · by_cases ho : OA p
          · exact .inr ho
          · have z : H0 p = none := z
            rw [h0n ho] at z
            exact absurd z h2
    have keepH : ∀ p o, H p = some o → some p ≠ dr → ¬ OA p → H' p = some o := fun p o h1 h2 h3 => r2.rf.gr p o (by rw [← h1]; exact h0n h3) h2
    have own2 : ∀ {i : Nat} {s : Sl}, i ∉ own → env[i]? = some s → env2[i]? = some s := fun {i s} hn h => by
      rw [← wipeE_get (env := env2) hn, we, wipeE_get hn]; exact h
    have st2 : ∀ {i : Nat} {o : Option V}, i ∉ own → σ[i]? = some o → σ2[i]? = some o := fun {i o} hn h => by
      rw [← wipe_get (σ := σ2) hn, ws, wipe_get hn]; exact h
    refine ⟨⟨⟨r2.rf.sub, re.rf.sup.trans sF, fun a h => ?_, fun a o h hn => ?_, fun a h => ?_, r2.rf.drw, re.rf.drs, re.rf.drn⟩, re.len, fun i s o h1 h2 => ?_, re.sep⟩, fun p o h1 h2 h3 => keepH p o h1 h2 fun h => ?_, fun p h1 h2 => (nF p h1 h2).imp id fun h => ?_⟩
    · rcases r2.rf.new a h with z | z
      · exact re.rf.new a z
      · have z : H0 a = none := z
        by_cases ho : OA a
        · obtain ⟨i, s, _, g1, g2, g3⟩ := oa ho
          obtain ⟨c, e1, _, _, e4, _⟩ := (re.slot i s _ g1 g3).there g2
          cases e1
          exact .inr e4
        · rw [h0n ho] at z
          exact .inr (by
            cases q : y.H0 a with
            | none => rfl
            | some u => exact absurd z (re.rf.dom a (by rw [q]; simp)))
    · have hH := re.rf.gr a o h hn
      have ho : ¬ OA a := fun ho => by
        obtain ⟨i, s, _, g1, g2, g3⟩ := oa ho
        obtain ⟨c, e1, _, _, e4, _⟩ := (re.slot i s _ g1 g3).there g2
        cases e1
        rw [h] at e4; cases e4
      refine keepH a o hH (fun e => ?_) ho
      rcases re.rf.drs with z | z
      · rcases re.rf.drn a e.symm with z' | z'
        · rw [z] at z'; cases z'
        · rw [h] at z'; cases z'
      · exact hn (by rw [e]; exact z)
    · have hH := re.rf.dom a h
      refine r2.rf.dom a ?_
      show H0 a ≠ none
      have ho : ¬ OA a := fun ho => by
        obtain ⟨i, s, _, g1, g2, g3⟩ := oa ho
        obtain ⟨c, e1, _, _, e4, _⟩ := (re.slot i s _ g1 g3).there g2
        cases e1
        exact h e4
      rw [h0n ho]; exact hH
    · by_cases hs : s.own = true
      · obtain ⟨c, e1, e2, e3, e4, e5⟩ := (re.slot i s o h1 h2).there hs
        by_cases hi : i ∈ own
        · have ho : ¬ OA c := fun ho => by
            obtain ⟨j, s', n', g1, g2, g3⟩ := oa ho
            have := re.sep i j c s s' h1 g1 hs g2 (by rw [h2, e1]) g3
            exact n' (by rw [← this]; exact hi)
          refine (re.slot i s o h1 h2).keep sF fun a ha w => ?_
          rw [ha] at e1; cases e1
          refine ⟨?_, (nF c e3 e2).resolve_right ho, e4⟩
          cases q : H c with
          | none => exact absurd q e2
          | some ob => exact keepH c ob q e5 ho
        · have q := r2.slot i s o (own2 hi h1) (st2 hi h2)
          have q2 : SlOk K y dr F' H' o s := q.keep (Same.refl _) fun a ha w => by
            obtain ⟨c', g1, _, g3, _⟩ := q.there w
            rw [ha] at g1 e1; cases g1; cases e1
            exact ⟨rfl, g3, e4⟩
          exact q2
      · exact (re.slot i s o h1 h2).keep sF fun a ha w => absurd w hs
    · obtain ⟨i, s, _, g1, g2, g3⟩ := oa h
      exact h3 i s g1 g2 g3
    · obtain ⟨i, s, _, g1, g2, g3⟩ := oa h
      exact ⟨i, s, g1, g2, g3⟩
end
end Mi

namespace Mi
open PySem PySem.Spec L2
section
variable {X : Cx} {b b' : Bool} {a c e tg iter elt : Expr} {ma mc me el : SE} {pos : Pos} {g : SG} {t : SB} {src : SI} {ifs : List Expr} {scope : Scope} {own : List (Str × Nat)}
theorem lc_red (hi : MI X true tg iter src)
    (hg : ∀ (s : Shared) (H : Hp) (C : Addr) (cl : List (Str × Addr)) (fp : List Addr), MG (X.blk s H scope (compEnvC scope cl C X.env) fp) (own.map (·.2)) tg g)
    (ht : ∀ (s : Shared) (H : Hp) (C : Addr) (cl : List (Str × Addr)) (fp : List Addr), MTs (X.blk s H scope (compEnvC scope cl C X.env) fp) ifs t)
    (he : ∀ (s : Shared) (H : Hp) (C : Addr) (cl : List (Str × Addr)) (fp : List Addr), ME (X.blk s H scope (compEnvC scope cl C X.env) fp) false elt el) {σ : L2.St} {H : Hp} {Q : VK} (h : lF X.G (sLc src (own.map (·.2)) g t el) σ H Q) :
    tLc (lI X.G true src) (lG X.G (own.map (·.2)) g) (lT X.G t) (lE X.G false el) (own.map (·.2)) σ H Q := by
  have hg' := hg {} H 0 [] []
  have ht' := ht {} H 0 [] []
  have he' := he {} H 0 [] []
  obtain ⟨y, dr, F, env, re, hm⟩ := h
  refine ⟨y, dr, F, env, re, hi.mono _ _ _ (fun ds hds J H1 F1 G Y re1 s1 hz W gok yok D hD => ?_) hm⟩
  refine lc_it W (fun i H2 => ∃ F2 accD accV, Re X.G y dr F2 env σ H2 ∧ Ex dr F1 H1 F2 H2 ∧ H2 D = some (.lst accV) ∧ Free y dr F2 env σ D ∧ Rvs X.G F2 accD accV ∧ accD.length ≤ i ∧ i ≤ ds.length ∧
      lcGo g t el (wipeE env (own.map (·.2))) (ds.drop i) fun rs => ∀ p vs H' F', Re X.G y dr F' env σ H' → Ex dr F H F' H' → H' p = some (.lst vs) → Free y dr F' env σ p → Rvs X.G F' (accD ++ rs) vs → (accD ++ rs).length ≤ sizeLine → Q (.ref p) H') ?_ (fun i H2 _ ⟨F2, _, _, _, x2, _⟩ => gok.2 rfl H2 x2.k) ?_ ?_
  · exact ⟨F1, [], [], re1.grown hD, Ex.grown hD, upd_same, re1.free hD, .nil, Nat.le_refl _, Nat.zero_le _, by simpa using hds⟩
  · intro i x H2 H3 hi' ⟨F2, accD, accV, re2, x2, hD2, fr2, rv2, hl2, _, hgo⟩ hy
    obtain ⟨F3, x3, re3, ⟨d, hd, rvd⟩, sm3, hD3⟩ := yok i H2 x H3 hi' (gok.2 rfl H2 x2.k) hy y dr F2 env σ re2 x2.f
    have fr3 : Free y dr F3 env σ D := ⟨hD3 D fr2.nF (by rw [hD2]; simp), fr2.nH, fr2.nd, fr2.no⟩
    have hD3' : H3 D = some (.lst accV) := sm3 _ _ hD2
    obtain ⟨y', rin, out⟩ := re3.blkIn (own.map (·.2))
    have e1 : ds.drop i = d :: ds.drop (i + 1) := by
      have hlt := (List.getElem?_eq_some_iff.mp hd).1
      rw [List.drop_eq_getElem_cons hlt, (List.getElem?_eq_some_iff.mp hd).2]
    rw [e1] at hgo
    have x13 : Ex dr F1 H1 F3 H3 := x2.trans x3
    -- out of the block: the outer state at a later heap
    have back : ∀ (F4 H4 : Hp) (env4 : En) (σ4 : L2.St), Re X.G y' dr F4 env4 σ4 H4 → wipeE env4 (own.map (·.2)) = wipeE env (own.map (·.2)) → wipe σ4 (own.map (·.2)) = wipe σ (own.map (·.2)) → Ex dr F3 H3 F4 H4 →
        Re X.G y dr F4 env σ H4 ∧ H4 D = some (.lst accV) ∧ Free y dr F4 env σ D := fun F4 H4 env4 σ4 r4 we ws x4 => by
      obtain ⟨o1, o2, o3⟩ := out F4 H4 env4 σ4 r4 we ws x4.f
      refine ⟨o1, x4.k _ _ hD3' fr3.nd, ?_, fr3.nH, fr3.nd, fr3.no⟩
      rcases o3 D fr3.nF (by rw [hD3']; simp) with z | ⟨j, s, g1, g2, g3⟩
      · exact z
      · exact absurd g3 (fr3.no j s g1 g2)
    refine ⟨y', dr, F3, _, d, rin, rvd, hg'.mono _ _ _ _ (fun env4 hq F4 σ4 H4 r4 x4 w4 => ?_) (hg'.fr _ _ _ hgo)⟩
    obtain ⟨hq, we⟩ := hq
    have we : wipeE env4 (own.map (·.2)) = wipeE env (own.map (·.2)) := by
      rw [we]
      apply List.ext_getElem?
      intro j
      by_cases hj : j ∈ own.map (·.2)
      · by_cases hl : j < env.length
        · rw [wipeE_in hj hl, wipeE_in hj (by rw [wipeE_length]; exact hl)]
        · rw [List.getElem?_eq_none (by rw [wipeE_length, wipeE_length]; omega), List.getElem?_eq_none (by rw [wipeE_length]; omega)]
      · rw [wipeE_get hj]
    have ww : wipe (wipe σ (own.map (·.2))) (own.map (·.2)) = wipe σ (own.map (·.2)) := by
      apply List.ext_getElem?
      intro j
      by_cases hj : j ∈ own.map (·.2)
      · by_cases hl : j < σ.length
        · rw [wipe_in hj hl, wipe_in hj (by rw [wipe_length]; exact hl)]
        · rw [List.getElem?_eq_none (by rw [wipe_length, wipe_length]; omega), List.getElem?_eq_none (by rw [wipe_length]; omega)]
      · rw [wipe_get hj]
    rw [ww] at w4
    refine ⟨w4, y', dr, F4, env4, r4, ht'.mono _ _ _ (fun k hk H5 F5 r5 x5 => ?_) hq⟩
    cases k with
    | false =>
      rw [if_neg Bool.false_ne_true] at hk ⊢
      obtain ⟨o1, o2, o3⟩ := back F5 H5 env4 σ4 r5 we w4 (x4.trans x5)
      exact ⟨F5, accD, accV, o1, x13.trans (x4.trans x5), o2, o3, rv2.mono ((x3.trans x4).trans x5).f, Nat.le_succ_of_le hl2, hi', hk⟩
    | true =>
      rw [if_pos rfl] at hk ⊢
      refine ⟨y', dr, F5, env4, r5, he'.mono _ _ _ (fun r hr v H6 F6 r6 x6 w6 => ?_) hk⟩
      obtain ⟨o1, o2, o3⟩ := back F6 H6 env4 σ4 r6 we w4 ((x4.trans x5).trans x6)
      have rv6 : Rvs X.G F6 (accD ++ [r]) (accV ++ [v]) := (rv2.mono (((x3.trans x4).trans x5).trans x6).f).append (.cons w6.rv .nil)
      have hlen : (accD ++ [r]).length ≤ i + 1 := by rw [List.length_append]; simpa using hl2
      have hz6 : accV.length < sizeLine := by rw [← rv2.length]; omega
      refine ⟨accV, o2, hz6, F6, accD ++ [r], accV ++ [v], ?_, ?_, upd_same, o3, rv6, hlen, hi', lcGo_mono hg'.mono ht'.mono he'.mono _ _ _ _ (fun rs hh => ?_) hr⟩
      · -- the list has grown: nobody's slot
        refine ⟨⟨fun q u eq => ?_, o1.rf.sup, o1.rf.new, fun q u eq n => ?_, fun q hq => ?_, fun q hq => ?_, o1.rf.drs, o1.rf.drn⟩, o1.len, fun j s o h1 h2 => ?_, o1.sep⟩
        · have hq : q ≠ D := fun z => by rw [z, o3.nF] at eq; cases eq
          rw [upd_ne hq]; exact o1.rf.sub q u eq
        · have hq : q ≠ D := fun z => by rw [z, o3.nH] at eq; cases eq
          rw [upd_ne hq]; exact o1.rf.gr q u eq n
        · have hqD : q ≠ D := fun z => by rw [z, o3.nH] at hq; exact hq rfl
          rw [upd_ne hqD]; exact o1.rf.dom q hq
        · obtain ⟨q1, q2⟩ := o1.rf.drw q hq
          have hqD : q ≠ D := fun z => o3.nd (by rw [← z]; exact hq.symm)
          exact ⟨q1, q2.at (upd_ne hqD)⟩
        · refine (o1.slot j s o h1 h2).keep (Same.refl _) fun q hq w => ?_
          obtain ⟨c', g1, _, g3, g4, _⟩ := (o1.slot j s o h1 h2).there w
          rw [hq] at g1; cases g1
          have : q ≠ D := fun z => o3.no j s h1 w (by rw [h2, hq, z])
          exact ⟨upd_ne this, g3, g4⟩
      · refine ⟨(x13.trans ((x4.trans x5).trans x6)).f, fun q u eq n => ?_⟩
        have hq : q ≠ D := fun z => by rw [z, hD] at eq; cases eq
        rw [upd_ne hq]
        exact (x13.trans ((x4.trans x5).trans x6)).k q u eq n
      · intro p vs H' F' q1 q2 q3 q4 q5 q6
        refine hh p vs H' F' q1 q2 q3 q4 ?_ ?_
        · rw [List.append_assoc] at q5; exact q5
        · rw [List.append_assoc] at q6; exact q6
  · intro H2 ⟨F2, accD, accV, re2, x2, hD2, fr2, rv2, hl2, _, hgo⟩
    rw [List.drop_length] at hgo
    have hgo := (show ∀ p vs H' F', _ from hgo) D accV H2 F2 re2 (s1.trans x2) hD2 fr2 (by rw [List.append_nil]; exact rv2) (by rw [List.append_nil]; omega)
    exact hgo
theorem lc_mono (hi : MI X true tg iter src)
    (hg : ∀ (s : Shared) (H : Hp) (C : Addr) (cl : List (Str × Addr)) (fp : List Addr), MG (X.blk s H scope (compEnvC scope cl C X.env) fp) (own.map (·.2)) tg g)
    (ht : ∀ (s : Shared) (H : Hp) (C : Addr) (cl : List (Str × Addr)) (fp : List Addr), MTs (X.blk s H scope (compEnvC scope cl C X.env) fp) ifs t)
    (he : ∀ (s : Shared) (H : Hp) (C : Addr) (cl : List (Str × Addr)) (fp : List Addr), ME (X.blk s H scope (compEnvC scope cl C X.env) fp) false elt el) (env : En) (P Q : List D → Prop) (k : ∀ d, P d → Q d) (h : sLc src (own.map (·.2)) g t el env P) : sLc src (own.map (·.2)) g t el env Q :=
  hi.mono _ _ _ (fun ds hd => lcGo_mono (hg {} (fun _ => none) 0 [] []).mono (ht {} (fun _ => none) 0 [] []).mono (he {} (fun _ => none) 0 [] []).mono _ ds _ _ k hd) h
theorem mf_lc (hc : X.calm = true) (hN : X.N.Nodup) (hi : MI X true tg iter src) (ok : BlkOk X.N X.env.scope scope own)
    (hg : ∀ (s : Shared) (H : Hp) (C : Addr) (cl : List (Str × Addr)) (fp : List Addr), MG (X.blk s H scope (compEnvC scope cl C X.env) fp) (own.map (·.2)) tg g)
    (ht : ∀ (s : Shared) (H : Hp) (C : Addr) (cl : List (Str × Addr)) (fp : List Addr), MTs (X.blk s H scope (compEnvC scope cl C X.env) fp) ifs t)
    (he : ∀ (s : Shared) (H : Hp) (C : Addr) (cl : List (Str × Addr)) (fp : List Addr), ME (X.blk s H scope (compEnvC scope cl C X.env) fp) false elt el) (hs : ∀ x, foldedSetIterable iter X.env x = pure x := by intro _; rfl) :
    MF X (.ListComp elt [⟨tg, iter, ifs, 0⟩] scope pos) (sLc src (own.map (·.2)) g t el) :=
  ⟨⟨fun pins s σ H Q I h => (pe_lc hc hN hi.run ok (fun a b c d f => (hg a b c d f).run) (fun a b c d f => (ht a b c d f).run) (fun a b c d f => (he a b c d f).run) hs).run pins s σ H Q I (lc_red hi hg ht he h)⟩, lc_mono hi hg ht he⟩
/-- name = [..] on one line, the name a local: a value, or one's own -/
theorem ms_lcO {i : Nat} {x : Str} {py spos : Pos} (hc : X.calm = true) (hN : X.N.Nodup) (hy : X.N[i]? = some x) (hyl : X.env.scope.names.lookup x = some .local)
    (hsw : swapsWith (.ListComp elt [⟨tg, iter, ifs, 0⟩] scope pos) (some (.Name x py)) spos.line X.env = pure true) (hi : MI X true tg iter src) (ok : BlkOk X.N X.env.scope scope own)
    (hg : ∀ (s : Shared) (H : Hp) (C : Addr) (cl : List (Str × Addr)) (fp : List Addr), MG (X.blk s H scope (compEnvC scope cl C X.env) fp) (own.map (·.2)) tg g)
    (ht : ∀ (s : Shared) (H : Hp) (C : Addr) (cl : List (Str × Addr)) (fp : List Addr), MTs (X.blk s H scope (compEnvC scope cl C X.env) fp) ifs t)
    (he : ∀ (s : Shared) (H : Hp) (C : Addr) (cl : List (Str × Addr)) (fp : List Addr), ME (X.blk s H scope (compEnvC scope cl C X.env) fp) false elt el) (hs : ∀ x, foldedSetIterable iter X.env x = pure x := by intro _; rfl) :
    MS X (.Assign [.Name x py] (.ListComp elt [⟨tg, iter, ifs, 0⟩] scope pos) spos) (sOwn i (sLc src (own.map (·.2)) g t el)) := by
  refine ⟨⟨fun pins s σ H E I h => (ps_setLc (te := lE X.G false el) (tt := lT X.G t) (g := lG X.G (own.map (·.2)) g) (wi := lI X.G true src) hc hN hy hyl hsw hi.run ok (fun a b c d f => (hg a b c d f).run) (fun a b c d f => (ht a b c d f).run) (fun a b c d f => (he a b c d f).run) hs).run pins s σ H E I ?_⟩, own_mono (lc_mono hi hg ht he)⟩
  have h2 := own_red (lc_mono hi hg ht he) h
  exact lc_red hi hg ht he h2
theorem asgF_red {i : Nat} {ml : SL} {E : Ends} {σ : L2.St} {H : Hp} (mono : ∀ env (P Q : List D → Prop), (∀ d, P d → Q d) → ml env P → ml env Q) (h : lS X.G (sAsg i (sFr ml)) E σ H) : tAsg (lF X.G ml) (gName i) E σ H := by
  obtain ⟨y, dr, F, env, re, hm⟩ := h
  exact ⟨y, dr, F, env, re, mono _ _ _ (fun xs hd p vs H' F' r1 s1 hp fr rv hz => hd dr _ _ H' ((r1.freeze fr hp).putV (Rv.lstNew fr.nF hz rv)) (s1.trans (Ex.fz fr.nF)).f) hm⟩
theorem ms_lcV {i : Nat} {x : Str} {py spos : Pos} (hc : X.calm = true) (hN : X.N.Nodup) (hy : X.N[i]? = some x) (hyl : X.env.scope.names.lookup x = some .local)
    (hsw : swapsWith (.ListComp elt [⟨tg, iter, ifs, 0⟩] scope pos) (some (.Name x py)) spos.line X.env = pure true) (hi : MI X true tg iter src) (ok : BlkOk X.N X.env.scope scope own)
    (hg : ∀ (s : Shared) (H : Hp) (C : Addr) (cl : List (Str × Addr)) (fp : List Addr), MG (X.blk s H scope (compEnvC scope cl C X.env) fp) (own.map (·.2)) tg g)
    (ht : ∀ (s : Shared) (H : Hp) (C : Addr) (cl : List (Str × Addr)) (fp : List Addr), MTs (X.blk s H scope (compEnvC scope cl C X.env) fp) ifs t)
    (he : ∀ (s : Shared) (H : Hp) (C : Addr) (cl : List (Str × Addr)) (fp : List Addr), ME (X.blk s H scope (compEnvC scope cl C X.env) fp) false elt el) (hs : ∀ x, foldedSetIterable iter X.env x = pure x := by intro _; rfl) :
    MS X (.Assign [.Name x py] (.ListComp elt [⟨tg, iter, ifs, 0⟩] scope pos) spos) (sAsg i (sFr (sLc src (own.map (·.2)) g t el))) := by
  refine ⟨⟨fun pins s σ H E I h => (ps_setLc (te := lE X.G false el) (tt := lT X.G t) (g := lG X.G (own.map (·.2)) g) (wi := lI X.G true src) hc hN hy hyl hsw hi.run ok (fun a b c d f => (hg a b c d f).run) (fun a b c d f => (ht a b c d f).run) (fun a b c d f => (he a b c d f).run) hs).run pins s σ H E I ?_⟩, asg_mono fun env P Q k h => lc_mono hi hg ht he env _ _ (fun d q => k _ q) h⟩
  have h2 := asgF_red (lc_mono hi hg ht he) h
  exact lc_red hi hg ht he h2
end
end Mi

namespace Mi
open PySem PySem.Spec L2
section
variable {X : Cx} {b b' : Bool} {a c e o : Expr} {ma mc me : SE} {pos apos cpos npos : Pos}
theorem gv_own {env : En} {i : Nat} {xs : List D} (h : gv env i = .l xs) : env[i]? = some (.l xs) := gv_some h (by simp)
theorem Re.ownL {K : Fg} {y : Cy} {dr : Option Addr} {F H : Hp} {env : En} {σ : L2.St} (re : Re K y dr F env σ H) {i : Nat} {xs : List D} (h : env[i]? = some (.l xs)) {v : V} (hv : σ[i]? = some (some v)) : ∃ p vs, v = .ref p ∧ H p = some (.lst vs) ∧ xs.length ≤ sizeLine ∧ Rvs K F xs vs := by
  obtain ⟨p, vs, h1, h2, h3, h4, _⟩ := re.slot i _ _ h hv
  cases h1
  exact ⟨p, vs, rfl, h2, h3, h4⟩
def ownL (env : En) (i : Nat) (P : List D → Prop) : Prop := match gv env i with
  | .l xs => P xs
  | _ => False
theorem ownL_some {env : En} {i : Nat} {P : List D → Prop} (h : ownL env i P) : ∃ xs, env[i]? = some (.l xs) ∧ gv env i = .l xs ∧ P xs := by
  unfold ownL at h
  split at h
  · rename_i xs q
    exact ⟨xs, gv_own q, q, h⟩
  · exact h.elim
theorem ownL_mono {env : En} {i : Nat} {P Q : List D → Prop} (k : ∀ xs, P xs → Q xs) (h : ownL env i P) : ownL env i Q := by
  unfold ownL at h ⊢
  split at h
  · exact k _ h
  · exact h
/-- xs.append(e), xs one's own -/
def sApp (i : Nat) (m : SE) : SS := fun K env => ownL env i fun xs => m env fun d => xs.length < 16777216 ∧ K.nx (env.set i (.l (xs ++ [d])))
theorem ms_app {i : Nat} {x : Str} (hv : PE X (.Name x npos) (tVar i)) (he : ME X false e me)
    (hbase : attributeBase (.Name x npos) "append" X.env (eval (.Name x npos) X.env) = eval (.Name x npos) X.env := by rfl)
    (hfew : ((backTo cpos (starEach [e] X.env)).all (fun x => !x.1) && (backToKw cpos (keywordEach [] X.env)).all (fun x => x.1.isSome)
      && decide ([e].length + ([] : List Keyword).length + (if ([] : List Keyword).isEmpty then 0 else 1) < 30)) = true := by rfl)
    (hline : (apos.endLine == cpos.line) = true := by rfl) (hs : starEach [e] X.env = (false, eval e X.env) :: starEach [] X.env := by rfl) (hplain : (backTo cpos (starEach [] X.env)).any (·.1) = false := by rfl)
    (hsw : swapsWith (.Call (.Attribute (.Name x npos) "append" apos) [e] [] cpos) none pos.line X.env = pure false := by rfl) : MS X (.Expr (.Call (.Attribute (.Name x npos) "append" apos) [e] [] cpos) pos) (sApp i me) := by
  refine ⟨⟨fun pins s σ H E I h => (ps_expr (pe_bm PySem.F.plainAttrs_list PySem.F.slot_list_append PySem.F.type_list_append mt_append hv (pa_cons he.run pa_nil hs) hbase hfew hline hs hplain) hsw).run pins s σ H E I ?_⟩,
    fun a c env k h => ownL_mono (fun xs h1 => he.mono _ _ _ (fun d hd => ⟨hd.1, k.nx _ hd.2⟩) h1) h⟩
  obtain ⟨y, dr, F, env, re, hm⟩ := h
  obtain ⟨xs, q, _, hm⟩ := ownL_some hm
  obtain ⟨o, g1, p, vs, g2, g3, _⟩ := re.get q
  subst g2
  refine ⟨.ref p, g1, .inl ⟨rfl, _, SqL.of g3⟩, y, dr, F, env, re, he.mono _ _ _ (fun d hd v H' F' r1 s1 w => ?_) hm⟩
  obtain ⟨p', vs', e1, e2, e3, e4⟩ := r1.ownL q g1
  cases e1
  have hz : xs.length < sizeLine := by rw [sizeLine_eq]; exact hd.1
  refine ⟨p, vs', v, rfl, rfl, e2, by rw [← e4.length]; exact hz, ?_⟩
  exact hd.2 dr F' σ _ (r1.setL q g1 (e4.append (.cons w.rv .nil)) (by rw [List.length_append]; exact hz)) s1.f
/-- xs.extend(e), e a list -/
def sExt (i : Nat) (m : SE) : SS := fun K env => ownL env i fun xs => m env fun d => match d with
  | .list ys => xs.length + ys.length ≤ 16777216 ∧ K.nx (env.set i (.l (xs ++ ys)))
  | _ => False
theorem ms_ext {i : Nat} {x : Str} (hv : PE X (.Name x npos) (tVar i)) (he : ME X true e me)
    (hbase : attributeBase (.Name x npos) "extend" X.env (eval (.Name x npos) X.env) = eval (.Name x npos) X.env := by rfl)
    (hfew : ((backTo cpos (starEach [e] X.env)).all (fun x => !x.1) && (backToKw cpos (keywordEach [] X.env)).all (fun x => x.1.isSome)
      && decide ([e].length + ([] : List Keyword).length + (if ([] : List Keyword).isEmpty then 0 else 1) < 30)) = true := by rfl)
    (hline : (apos.endLine == cpos.line) = true := by rfl) (hs : starEach [e] X.env = (false, eval e X.env) :: starEach [] X.env := by rfl) (hplain : (backTo cpos (starEach [] X.env)).any (·.1) = false := by rfl)
    (hsw : swapsWith (.Call (.Attribute (.Name x npos) "extend" apos) [e] [] cpos) none pos.line X.env = pure false := by rfl) : MS X (.Expr (.Call (.Attribute (.Name x npos) "extend" apos) [e] [] cpos) pos) (sExt i me) := by
  refine ⟨⟨fun pins s σ H E I h => (ps_expr (pe_bm PySem.F.plainAttrs_list PySem.F.slot_list_extend PySem.F.type_list_extend mt_extend hv (pa_cons he.run pa_nil hs) hbase hfew hline hs hplain) hsw).run pins s σ H E I ?_⟩,
    fun a c env k h => ownL_mono (fun xs h1 => he.mono _ _ _ (fun d hd => by cases d <;> first | exact ⟨hd.1, k.nx _ hd.2⟩ | exact hd) h1) h⟩
  obtain ⟨y, dr, F, env, re, hm⟩ := h
  obtain ⟨xs, q, _, hm⟩ := ownL_some hm
  obtain ⟨o, g1, p, vs, g2, g3, _⟩ := re.get q
  subst g2
  refine ⟨.ref p, g1, .inl ⟨rfl, _, SqL.of g3⟩, y, dr, F, env, re, he.mono _ _ _ (fun d hd v H' F' r1 s1 w => ?_) hm⟩
  cases d with
  | list ys =>
    obtain ⟨p', vs', e1, e2, e3, e4⟩ := r1.ownL q g1
    cases e1
    obtain ⟨a2, ws, rfl, f2, f3, f4⟩ := w.list r1
    have hz : xs.length + ys.length ≤ sizeLine := by rw [sizeLine_eq]; exact hd.1
    have l1 := e4.length
    have l2 := f4.length
    refine ⟨p, a2, vs', ws, rfl, rfl, e2, f2, by omega, ?_⟩
    exact hd.2 dr F' σ _ (r1.setL q g1 (e4.append f4) (by rw [List.length_append]; exact hz)) s1.f
  | _ => exact hd.elim
/-- xs[i] = e -/
def sSet (i : Nat) (mi mv : SE) : SS := fun K env => ownL env i fun xs => mv env fun d => mi env fun ix => match ix with
  | .int k => (match ixN xs.length k with
    | some j => K.nx (env.set i (.l (xs.set j d)))
    | none => False)
  | _ => False
theorem Rvs.setAt {K : Fg} {F : Hp} {d : D} {v : V} (r : Rv K F d v) : ∀ {ds : List D} {vs : List V} (i : Nat), Rvs K F ds vs → Rvs K F (ds.set i d) (vs.set i v)
  | _, _, _, .nil => .nil
  | _, _, 0, .cons _ t => .cons r t
  | _, _, i + 1, .cons q t => .cons q (Rvs.setAt r i t)
theorem ms_setL {i : Nat} {x : Str} {spos : Pos} (hv : PE X (.Name x npos) (tVar i)) (hc : ME X true c mc) (he : ME X false e me)
    (ha : ∀ v, assign (.Subscript (.Name x npos) c spos) X.env v = (do
      let ov ← holding [v] (eval (.Name x npos) X.env)
      let iv ← holding [v, ov] (eval c X.env)
      standAt spos
      holding [v, ov, iv] (setItem ov iv v)
      release [v, ov, iv] []) := by intro _; rfl)
    (hs : swapsWithSole [.Subscript (.Name x npos) c spos] e pos.line X.env = pure false := by rfl) (hw : swappedStores [.Subscript (.Name x npos) c spos] e X.env = pure none := by rfl)
    (h1 : (assignEach [.Subscript (.Name x npos) c spos] X.env).map (·.2) = [assign (.Subscript (.Name x npos) c spos) X.env] := by rfl) : MS X (.Assign [.Subscript (.Name x npos) c spos] e pos) (sSet i mc me) := by
  refine ⟨⟨fun pins s σ H E I h => (ps_asg he.run (pg_sub hv hc.run set_list ha) hs hw h1).run pins s σ H E I ?_⟩, fun a c env k h => ownL_mono (fun xs h1 => he.mono _ _ _ (fun d hd => hc.mono _ _ _ (fun ix hi => ?_) hd) h1) h⟩
  · obtain ⟨y, dr, F, env, re, hm⟩ := h
    obtain ⟨xs, q, _, hm⟩ := ownL_some hm
    refine ⟨y, dr, F, env, re, he.mono _ _ _ (fun d hd v H' F' r1 s1 w => ?_) hm⟩
    obtain ⟨o, g1, p, vs, g2, g3, _⟩ := r1.get q
    subst g2
    refine ⟨.ref p, g1, y, dr, F', env, r1, hc.mono _ _ _ (fun ix hi v2 H2 F2 r2 s2 w2 => ?_) hd⟩
    cases ix with
    | int k =>
      obtain ⟨p', vs', e1, e2, e3, e4⟩ := r2.ownL q g1
      cases e1
      cases qj : ixN xs.length k with
      | none =>
        have hi : (match ixN xs.length k with | some j => (kS X.G y F E).nx (env.set i (.l (xs.set j d))) | none => False) := hi
        rw [qj] at hi; exact hi.elim
      | some j =>
        have hi : (match ixN xs.length k with | some j => (kS X.G y F E).nx (env.set i (.l (xs.set j d))) | none => False) := hi
        rw [qj] at hi
        refine ⟨p, vs', k, j, rfl, w2.int, e2, by rw [← e4.length]; exact qj, ?_⟩
        exact hi dr F2 σ _ (r2.setL q g1 (Rvs.setAt (w.mono s2).rv j e4) (by rw [List.length_set]; exact e3)) (s1.trans s2).f
    | _ => exact hi.elim
  · cases ix with
    | int n =>
      revert hi
      show (match ixN xs.length n with | some j => _ | none => False) → (match ixN xs.length n with | some j => _ | none => False)
      intro hi
      cases qj : ixN xs.length n with
      | none => rw [qj] at hi; exact hi
      | some j =>
        rw [qj] at hi
        exact k.nx _ hi
    | _ => exact hi
end
/-! ### calls of defs -/
abbrev Sm := List Sl → (D → Prop) → Prop
/-- closed upwards -/
def up (sm : Sm) (args : List Sl) (Q : D → Prop) : Prop := ∃ P, sm args P ∧ ∀ d, P d → Q d
theorem up_mono {sm : Sm} {args : List Sl} {P Q : D → Prop} (k : ∀ d, P d → Q d) (h : up sm args P) : up sm args Q := by
  obtain ⟨R, h1, h2⟩ := h
  exact ⟨R, h1, fun d hd => k d (h2 d hd)⟩
theorem up_of {sm : Sm} {args : List Sl} {r : D} {Q : D → Prop} (h : sm args fun d => d = r) (q : Q r) : up sm args Q := ⟨_, h, fun d e => by rw [e]; exact q⟩
def RArg (K : Fg) (F : Hp) (dr : Option Addr) : Sl → V → Prop
  | .v d, v => Rv K F d v
  | .dr, v => ∃ a, dr = some a ∧ v = .ref a
  | .sc ns, v => ∃ a, v = .ref a ∧ SqL K F a (ns.map V.int)
  | _, _ => False
def spOf (K : Fg) (sm : Sm) (n : Nat) : Sp := fun vs H Q _ => vs.length = n ∧ ∃ F dr args, Same F H ∧ (∀ a, dr = some a → F a = none ∧ DrOk F H a) ∧ Paired (RArg K F dr) args vs ∧
  up sm args fun d => ∀ v H' F' dr', Rf ⟨F, H, dr⟩ dr' F' H' → Rv K F' d v → Q v H'
/-- what a def's body means: names nN in all -/
def semD (nN : Nat) (m : SS) : Sm := fun args Q => m ⟨fun _ => Q .none, Q, fun _ => False, fun _ => False⟩ (args ++ List.replicate (nN - args.length) .un)
theorem start_re {K : Fg} {F H : Hp} {dr : Option Addr} {args : List Sl} {vs : List V} {N : List Str} (hF : Same F H) (hd : ∀ a, dr = some a → F a = none ∧ DrOk F H a) (hp : Paired (RArg K F dr) args vs) :
    Re K ⟨F, H, dr⟩ dr F (args ++ List.replicate (N.length - args.length) .un) (L2.start N vs) H := by
  have hl : args.length = vs.length := Paired.length hp
  have key : ∀ (i : Nat) (s : Sl) (o : Option V), (args ++ List.replicate (N.length - args.length) Sl.un)[i]? = some s → (L2.start N vs)[i]? = some o → s = .un ∨ ∃ v, o = some v ∧ RArg K F dr s v := by
    intro i s o h1 h2
    by_cases hi : i < args.length
    · right
      rw [List.getElem?_append_left hi] at h1
      unfold L2.start at h2
      rw [List.getElem?_append_left (by rw [List.length_map, ← hl]; exact hi), List.getElem?_map] at h2
      have hv : i < vs.length := by rw [← hl]; exact hi
      have e : vs[i]? = some vs[i] := by simp [hv]
      rw [e] at h2
      obtain ⟨b, g1, g2⟩ := paired_get hp h1
      rw [e] at g1; cases g1
      exact ⟨vs[i], by simpa using h2.symm, g2⟩
    · left
      rw [List.getElem?_append_right (by omega)] at h1
      exact (List.mem_replicate.mp (List.mem_of_getElem? h1)).2
  refine ⟨⟨hF, Same.refl _, fun a h => .inl h, fun a o h _ => h, fun a h => h, hd, .inr rfl, fun a h => .inl h⟩, ?_, fun i s o h1 h2 => ?_, fun i j a s s' h1 h2 o1 o2 h3 h4 => ?_⟩
  · unfold L2.start
    rw [List.length_append, List.length_append, List.length_replicate, List.length_replicate, List.length_map, hl]
  · rcases key i s o h1 h2 with rfl | ⟨v, rfl, r⟩
    · trivial
    · cases s with
      | v d => exact ⟨v, rfl, r⟩
      | dr => obtain ⟨a, h3, h4⟩ := r; exact ⟨a, by rw [h4], h3⟩
      | sc ns => obtain ⟨a, h3, h4⟩ := r; exact ⟨a, by rw [h3], h4⟩
      | _ => exact r.elim
  · rcases key i s _ h1 h3 with rfl | ⟨v, _, r⟩
    · cases o1
    · cases s with
      | v d => cases o1
      | dr => cases o1
      | sc ns => cases o1
      | _ => exact r.elim
/-- THE RULE for a def: its body's meaning is its promise -/
theorem def_ok {P : Program} {w : World} {K : PySem.W.Frag} {mg : Str → Option Value} {base : Heap} {x qual : Str} {st : Stmt} {f : Addr} {fd : FuncData} {N ps : List Str} {k : Nat} {m : SS} (F : Fun K x qual st f fd) (S : FnScope N ps (defScope st))
    (hbody : ∀ (cdv : Value) (A : Around) (outer : List Env) (s : Shared) (H : Hp) (E : XK), Room k (A.deeper (PyProof.Rows.envOfC qual (defScope st) s.heap.objs.size f cdv)) →
      MSs (cxOf CX0 P w K mg base N qual (defScope st) f cdv A outer s H E).nox (defBody st) m) : FnOk P w K mg base CX0 (k + 1) f fd ps (spOf ⟨K, P, w⟩ (semD N.length m) ps.length) := by
  refine F.ok S (fun vs H Q E h => h.1) (fun cdv A outer s H vs Q E hr h => ?_)
  obtain ⟨hl, F0, dr, args, hF, hd, hp, P0, hm, hP⟩ := h
  have M := hbody cdv A outer s H E hr
  refine ⟨_, M.run, ⟨F0, H, dr⟩, dr, F0, _, start_re (K := ⟨K, P, w⟩) (N := N) hF hd hp, M.mono _ _ _ ⟨fun e he dr' F' σ' H' re' s' => ?_, fun d hd2 v dr' F' H' rf rv => ?_, fun _ h => False.elim h, fun _ h => False.elim h⟩ hm⟩
  · exact hP _ he .non H' F' dr' re'.rf .non
  · exact hP _ hd2 v H' F' dr' rf rv
/-! arguments -/
abbrev SR := En → (List Sl → Prop) → Prop
def RArgB (K : Fg) (b : Bool) (F : Hp) (dr : Option Addr) (env : En) (σ : L2.St) : Sl → V → Prop
  | .v d, v => Vr K b F env σ d v
  | .dr, v => ∃ a, dr = some a ∧ v = .ref a
  | _, _ => False
def lR (K : Fg) (b : Bool) (m : SR) : TA := fun σ H Q => ∃ y dr F env, Re K y dr F env σ H ∧ m env fun args => ∀ vs H' F', Re K y dr F' env σ H' → Ex dr F H F' H' → Paired (RArgB K b F' dr env σ) args vs → Q vs H'
structure MR (X : Cx) (b : Bool) (es : List Expr) (m : SR) : Prop where
  run : PA X es (lR X.G b m)
  mono : ∀ env (P Q : List Sl → Prop), (∀ d, P d → Q d) → m env P → m env Q
  len : ∀ env (P : List Sl → Prop), m env P → m env fun ds => ds.length = es.length ∧ P ds
section
variable {X : Cx} {b b' : Bool} {a c e o : Expr} {es : List Expr} {ma mc me : SE} {mr : SR} {pos apos cpos npos : Pos}
def rNil : SR := fun _ Q => Q []
def rCons (m : SE) (r : SR) : SR := fun env Q => m env fun d => r env fun ds => Q (.v d :: ds)
def rDr (i : Nat) (r : SR) : SR := fun env Q => gv env i = .dr ∧ r env fun ds => Q (.dr :: ds)
theorem RArgB.up {K : Fg} {dr' : Option Addr} {F F' H H' : Hp} {dr : Option Addr} {env : En} {σ : L2.St} {s : Sl} {v : V} (h : Ex dr' F H F' H') (r : RArgB K b F dr env σ s v) : RArgB K b F' dr env σ s v := by
  cases s with
  | v d => exact Vr.mono h r
  | dr => exact r
  | _ => exact r.elim
theorem mr_nil : MR X b [] rNil := by
  refine ⟨⟨fun pos pins s σ H Q I h => pa_nil.run pos pins s σ H Q I ?_⟩, fun env P Q k h => k _ h, fun env P h => ⟨rfl, h⟩⟩
  obtain ⟨y, dr, F, env, re, hm⟩ := h
  exact hm [] H F re Ex.refl .nil
theorem mr_cons (ha : ME X b e me) (hr : MR X b es mr) (hs : starEach (e :: es) X.env = (false, eval e X.env) :: starEach es X.env := by rfl) : MR X b (e :: es) (rCons me mr) := by
  refine ⟨⟨fun pos pins s σ H Q I h => (pa_cons ha.run hr.run hs).run pos pins s σ H Q I ?_⟩, fun env P Q k h => ha.mono _ _ _ (fun d h1 => hr.mono _ _ _ (fun ds h2 => k _ h2) h1) h,
    fun env P h => ha.mono _ _ _ (fun d h1 => hr.mono _ _ _ (fun ds h2 => ⟨congrArg (· + 1) h2.1, h2.2⟩) (hr.len _ _ h1)) h⟩
  obtain ⟨y, dr, F, env, re, hm⟩ := h
  refine ⟨y, dr, F, env, re, ha.mono _ _ _ (fun d hd v H1 F1 r1 s1 w1 => ?_) hm⟩
  exact ⟨y, dr, F1, env, r1, hr.mono _ _ _ (fun ds hds vs H2 F2 r2 s2 w2 => hds (v :: vs) H2 F2 r2 (s1.trans s2) (.cons (Vr.mono s2 w1) w2)) hd⟩
theorem mr_dr {i : Nat} (hv : PE X e (tVar i)) (hr : MR X b es mr) (hs : starEach (e :: es) X.env = (false, eval e X.env) :: starEach es X.env := by rfl) : MR X b (e :: es) (rDr i mr) := by
  refine ⟨⟨fun pos pins s σ H Q I h => (pa_cons hv hr.run hs).run pos pins s σ H Q I ?_⟩, fun env P Q k h => ⟨h.1, hr.mono _ _ _ (fun ds h2 => k _ h2) h.2⟩,
    fun env P h => ⟨h.1, hr.mono _ _ _ (fun ds h2 => ⟨congrArg (· + 1) h2.1, h2.2⟩) (hr.len _ _ h.2)⟩⟩
  obtain ⟨y, dr, F, env, re, hg, hm⟩ := h
  obtain ⟨o, e1, p, e2, e3⟩ := re.get (gv_some hg (by simp))
  subst e2
  exact ⟨.ref p, e1, y, dr, F, env, re, hr.mono _ _ _ (fun ds hds vs H2 F2 r2 s2 w2 => hds (.ref p :: vs) H2 F2 r2 s2 (.cons ⟨p, e3, rfl⟩ w2)) hm⟩
def sCall (n : Nat) (sm : Sm) (mr : SR) : SE := fun env Q => mr env fun args => up sm args Q
theorem paired_imp {α β : Type} {F G : α → β → Prop} : ∀ {l : List α} {m : List β}, Paired F l m → (∀ a b, F a b → G a b) → Paired G l m
  | _, _, .nil, _ => .nil
  | _, _, .cons a b, h => .cons (h _ _ a) (paired_imp b h)
theorem Rf.forget {y : Cy} {dr : Option Addr} {F H : Hp} (a : Rf y dr F H) (h : y.dr0 = none) : Rf y none F H :=
  ⟨a.sub, a.sup, a.new, a.gr, a.dom, fun _ e => (nomatch e), .inl h, fun _ e => (nomatch e)⟩
theorem Re.called {K : Fg} {y : Cy} {dr dr' : Option Addr} {F F' H H' : Hp} {env : En} {σ : L2.St} (re : Re K y dr F env σ H) (rf : Rf ⟨F, H, dr⟩ dr' F' H') : Re K y dr F' env σ H' ∧ Ex dr F H F' H' := by
  have rf' : Rf ⟨F, H, dr⟩ dr F' H' := by
    rcases rf.drs with z | z
    · have z : dr = none := z
      subst z
      exact rf.forget rfl
    · have z : dr' = dr := z
      rw [z] at rf; exact rf
  exact ⟨re.back rf', rf.sup, fun c o h n => rf.gr c o h n⟩
/-- f(..): the arguments by value (or the draw) -/
theorem me_call {k n : Nat} {f : Addr} {fd : FuncData} {ps : List Str} {sm : Sm} {x : Str} {p : Pos} (Fo : FnOk X.prog X.w X.G X.mg X.base CX0 k f fd ps (spOf X.G sm n)) (hn : ps.length = n) (hr : Room k X.A) (hm : X.mg x = some (.ref f)) (hk : PySem.W.keepIn X.G (.ref f) = true) (hb : Binds X.G fd ps [])
    (hl : (e :: es).length = n) (ha : MR X false (e :: es) mr) (hg : Gl X x := by rfl) (hdb : (x == ("__debug__" : Str)) = false := by decide) (he : starEach (e :: es) X.env = (false, eval e X.env) :: starEach es X.env := by rfl) (hpl : (backTo pos (starEach es X.env)).any (·.1) = false := by rfl) :
    ME X b (.Call (.Name x p) (e :: es) [] pos) (sCall n sm mr) := by
  refine ⟨⟨fun pins s σ H Q I h => (pe_call Fo hr hg hm hk hb .nil pass0 ha.run hdb he hpl).run pins s σ H Q I ?_⟩, fun env P Q k h => ha.mono _ _ _ (fun args h1 => up_mono k h1) h⟩
  obtain ⟨y, dr, F, env, re, hm⟩ := h
  refine ⟨y, dr, F, env, re, ha.mono _ _ _ (fun args h1 vs H1 F1 r1 s1 w1 => ?_) (ha.len _ _ hm)⟩
  have hlen : args.length = vs.length := Paired.length w1
  refine ⟨by rw [List.append_nil, ← hlen]; exact h1.1.trans hl, F1, dr, args, r1.rf.sub, r1.rf.drw, ?_, up_mono (fun d hd v H' F' dr' rf rv => ?_) h1.2⟩
  · rw [List.append_nil]
    refine paired_imp w1 fun s v r => ?_
    cases s with
    | v d => exact Vr.rv r
    | dr => exact r
    | _ => exact r.elim
  · obtain ⟨r2, x2⟩ := r1.called rf
    exact hd v H' F' r2 (s1.trans x2) (.inl rv)
end
end Mi

namespace Mi
open PySem PySem.Spec L2
/-! ### the draw -/
def spNext : Sp := fun vs H Q _ => ∃ (a : Addr) (k : Int) (F : Hp), vs = [.ref a, .int k] ∧ Same F H ∧ F a = none ∧ DrOk F H a ∧ 0 < k ∧ k < 1073741824 ∧
  ∀ n H', 0 ≤ n → n < k → Same F H' → DrOk F H' a → (∀ b, b ≠ a → H' b = H b) → Q (.int n) H'
section
variable {X : Cx} {b : Bool} {e : Expr} {me : SE} {pos npos : Pos}
def sNext (i : Nat) (m : SE) : SE := fun env Q => gv env i = .dr ∧ m env fun d => match d with
  | .int k => (0 < k ∧ k < 1073741824) ∧ ∀ n : Int, 0 ≤ n → n < k → Q (.int n)
  | _ => False
theorem me_next {k i : Nat} {f : Addr} {fd : FuncData} {ps : List Str} {x z : Str} {p : Pos} (Fo : FnOk X.prog X.w X.G X.mg X.base CX0 k f fd ps spNext) (hr : Room k X.A) (hm : X.mg x = some (.ref f)) (hk : PySem.W.keepIn X.G (.ref f) = true) (hb : Binds X.G fd ps [])
    (hv : PE X (.Name z npos) (tVar i)) (he : ME X true e me) (hg : Gl X x := by rfl) (hdb : (x == ("__debug__" : Str)) = false := by decide) (hs : starEach [.Name z npos, e] X.env = (false, eval (.Name z npos) X.env) :: starEach [e] X.env := by rfl)
    (hs2 : starEach [e] X.env = (false, eval e X.env) :: starEach [] X.env := by rfl) (hpl : (backTo pos (starEach [e] X.env)).any (·.1) = false := by rfl) :
    ME X b (.Call (.Name x p) [.Name z npos, e] [] pos) (sNext i me) := by
  refine ⟨⟨fun pins s σ H Q I h => (pe_call Fo hr hg hm hk hb .nil pass0 (pa_cons hv (pa_cons he.run pa_nil hs2) hs) hdb hs hpl).run pins s σ H Q I ?_⟩, fun env P Q k h => ⟨h.1, he.mono _ _ _ (fun d hd => by cases d <;> first | exact ⟨hd.1, fun n h1 h2 => k _ (hd.2 n h1 h2)⟩ | exact hd) h.2⟩⟩
  obtain ⟨y, dr, F, env, re, hg, hm⟩ := h
  obtain ⟨o, e1, q, e2, e3⟩ := re.get (gv_some hg (by simp))
  subst e2
  refine ⟨.ref q, e1, y, dr, F, env, re, he.mono _ _ _ (fun d hd v H1 F1 r1 s1 w1 => ?_) hm⟩
  cases d with
  | int j =>
    obtain ⟨⟨h0, h1⟩, hq⟩ := hd
    obtain ⟨g1, g2⟩ := r1.rf.drw q e3
    refine ⟨q, j, F1, by rw [w1.int]; rfl, r1.rf.sub, g1, g2, h0, h1, fun n H2 h3 h4 sF hD hk2 => ?_⟩
    have rf : Rf ⟨F1, H1, dr⟩ dr F1 H2 := by
      refine ⟨sF, Same.refl _, fun c h => .inl h, fun c o h hn => ?_, fun c h => ?_, fun c h => ?_, .inr rfl, fun c h => .inl h⟩
      · rw [hk2 c fun z => hn (by rw [z]; exact e3.symm)]; exact h
      · by_cases hc : c = q
        · subst hc
          obtain ⟨_, _, _, _, _, z, _⟩ := hD
          rw [z]; simp
        · rw [hk2 c hc]; exact h
      · have hcq : c = q := Option.some.inj (h.symm.trans e3)
        subst hcq
        exact ⟨g1, hD⟩
    obtain ⟨r2, x2⟩ := r1.called rf
    exact hq n h3 h4 _ H2 F1 r2 (s1.trans x2) (.inl (.int _))
  | _ => exact hd.elim
end
/-! its body -/
section
variable {P : Program} {w : World} {K : Fg} {mg : Str → Option Value} {base : Heap} {st : Stmt}
abbrev nmNext : List Str := ["draw", "many", "found", "cell"]
structure BtN (mg : Str → Option Value) : Prop where
  len : mg "len" = none
  abs : mg "abs" = none
  int : mg "int" = none
/-- the def's body, the position of each node open -/
theorem drIx {a : Addr} {xs : List V} {H : Hp} {v : V} {i : Nat} {Q : VK} (h : H a = some (.lst xs)) (hv : xs[i]? = some v) (q : Q v H) : rIxL K (.ref a) (.int (i : Int)) H Q := ⟨a, xs, _, v, rfl, rfl, SqL.of h, atI_nat hv, q⟩
end
end Mi

namespace Mi
open PySem PySem.Spec L2
/-! ### a def of the top's, as its callers use it -/
def Df (P : Program) (w : World) (K : PySem.W.Frag) (mg : Str → Option Value) (base : Heap) (x : Str) (k : Nat) (ps : List Str) (sp : Sp) : Prop :=
  ∃ (f : Addr) (fd : FuncData), mg x = some (.ref f) ∧ PySem.W.keepIn K (.ref f) = true ∧ Binds K fd ps [] ∧ FnOk P w K mg base CX0 k f fd ps sp
section
variable {X : Cx} {b : Bool} {e : Expr} {es : List Expr} {me : SE} {mr : SR} {pos npos p : Pos}
theorem me_callD {k n : Nat} {ps : List Str} {sm : Sm} {x : Str} (d : Df X.prog X.w X.K X.mg X.base x k ps (spOf X.G sm n)) (hn : ps.length = n) (hr : Room k X.A)
    (hl : (e :: es).length = n) (ha : MR X false (e :: es) mr) (hg : Gl X x := by rfl) (hdb : (x == ("__debug__" : Str)) = false := by decide) (he : starEach (e :: es) X.env = (false, eval e X.env) :: starEach es X.env := by rfl) (hpl : (backTo pos (starEach es X.env)).any (·.1) = false := by rfl) :
    ME X b (.Call (.Name x p) (e :: es) [] pos) (sCall n sm mr) := by
  obtain ⟨f, fd, h1, h2, h3, h4⟩ := d
  exact me_call h4 hn hr h1 h2 h3 hl ha hg hdb he hpl
theorem me_nextD {k i : Nat} {ps : List Str} {x z : Str} (d : Df X.prog X.w X.K X.mg X.base x k ps spNext) (hr : Room k X.A)
    (hv : PE X (.Name z npos) (tVar i)) (he : ME X true e me) (hg : Gl X x := by rfl) (hdb : (x == ("__debug__" : Str)) = false := by decide) (hs : starEach [.Name z npos, e] X.env = (false, eval (.Name z npos) X.env) :: starEach [e] X.env := by rfl)
    (hs2 : starEach [e] X.env = (false, eval e X.env) :: starEach [] X.env := by rfl) (hpl : (backTo pos (starEach [e] X.env)).any (·.1) = false := by rfl) :
    ME X b (.Call (.Name x p) [.Name z npos, e] [] pos) (sNext i me) := by
  obtain ⟨f, fd, h1, h2, h3, h4⟩ := d
  exact me_next h4 hr h1 h2 h3 hv he hg hdb hs hs2 hpl
end
section
variable {P : Program} {w : World} {K : PySem.W.Frag} {mg : Str → Option Value} {base : Heap}
/-- the promise of _law_draw -/
def spDraw (K : PySem.W.Frag) : Sp := fun vs H Q _ => ∃ (a : Addr) (ns : List Int), vs = [.ref a] ∧ SqL K H a (ns.map V.int) ∧ ns.length ≤ 63 ∧
  ∀ (q l : Addr) (H' : Hp), H q = none → H l = none → l ≠ q → H' q = some (.lst [.ref l, .int 0, .int 0, .int 17]) → H' l = some (.lst (ns.map V.int)) → Same H H' → Q (.ref q) H'
def spLaw (K : PySem.W.Frag) : Sp := fun vs H Q _ => ∃ (a : Addr) (ns : List Int), vs = [.ref a] ∧ SqL K H a (ns.map V.int) ∧ ns.length ≤ 63 ∧ ∀ H', Q (.bl true) H'
def tDraw (K : PySem.W.Frag) : TE := fun σ H Q => ∃ (a : Addr) (ns : List Int), σ[0]? = some (some (.ref a)) ∧ SqL K H a (ns.map V.int) ∧ ns.length ≤ 63 ∧
  ∀ (q l : Addr) (H' : Hp), H q = none → H l = none → l ≠ q → H' q = some (.lst [.ref l, .int 0, .int 0, .int 17]) → H' l = some (.lst (ns.map V.int)) → Same H H' → Q (.ref q) H'
theorem pe_draw {X : Cx} {k : Nat} {x z : Str} {ps : List Str} {pos npos p : Pos} (d : Df X.prog X.w X.K X.mg X.base x k ps (spDraw X.K)) (hr : Room k X.A) (hv : PE X (.Name z npos) (tVar 0))
    (hg : Gl X x := by rfl) (hdb : (x == ("__debug__" : Str)) = false := by decide) (he : starEach [.Name z npos] X.env = (false, eval (.Name z npos) X.env) :: starEach [] X.env := by rfl) (hpl : (backTo pos (starEach [] X.env)).any (·.1) = false := by rfl) :
    PE X (.Call (.Name x p) [.Name z npos] [] pos) (tDraw X.K) := by
  obtain ⟨f, fd, h1, h2, h3, h4⟩ := d
  refine ⟨fun pins s σ H Q I h => (pe_call h4 hr hg h1 h2 h3 .nil pass0 (pa_cons hv pa_nil he) hdb he hpl).run pins s σ H Q I ?_⟩
  obtain ⟨a, ns, e1, e2, e3, q⟩ := h
  exact ⟨.ref a, e1, a, ns, rfl, e2, e3, q⟩
def env0 (n i : Nat) : En := (List.replicate n Sl.un).set i .dr
def kL : Ks := { nx := fun _ => False, rt := fun d => d = .bool true }
theorem law_ok {x qual : Str} {st : Stmt} {f : Addr} {fd : FuncData} {N : List Str} {k i : Nat} {m : SS} (F : Fun K x qual st f fd) (S : FnScope N ["script"] (defScope st)) (hN : 0 < N.length)
    (hbody : ∀ (cdv : Value) (A : Around) (outer : List Env) (s : Shared) (H : Hp) (E : XK), Room k (A.deeper (PyProof.Rows.envOfC qual (defScope st) s.heap.objs.size f cdv)) →
      PSs (cxOf CX0 P w K mg base N qual (defScope st) f cdv A outer s H E).nox (defBody st) (tSeq (tAsg (tDraw K) (gName i)) (lS ⟨K, P, w⟩ m)))
    (hm : m kL (env0 N.length i)) (mono : ∀ (a c : Ks) env, KLe a c → m a env → m c env) : FnOk P w K mg base CX0 (k + 1) f fd ["script"] (spLaw K) := by
  refine F.ok S (fun vs H Q E h => ?_) (fun cdv A outer s H vs Q E hr h => ?_)
  · obtain ⟨a, ns, rfl, _⟩ := h
    rfl
  · obtain ⟨a, ns, rfl, hS, hlen, kq⟩ := h
    refine ⟨_, hbody cdv A outer s H E hr, a, ns, ?_, hS, hlen, fun q l H' n1 n2 ne h1 h2 sm => ?_⟩
    · unfold L2.start
      rfl
    · have sF : Same H (upd H l (.lst (ns.map V.int))) := upd_grow n2
      have rf : Rf ⟨H, H, none⟩ (some q) (upd H l (.lst (ns.map V.int))) H' := by
        refine ⟨fun b o e => ?_, sF, fun b _ => ?_, fun b o e _ => sm b o e, fun b hb => ?_, fun b hb => ?_, .inl rfl, fun b hb => .inr (by cases hb; exact n1)⟩
        · by_cases hb : b = l
          · subst hb; rw [upd_same] at e; cases e; exact h2
          · rw [upd_ne hb] at e; exact sm b o e
        · cases z : H b with
          | none => exact .inr z
          | some o => exact .inl (by show H b ≠ none; rw [z]; simp)
        · cases z : H b with
          | none => exact absurd z hb
          | some o => rw [sm b o z]; simp
        · cases hb
          exact ⟨by rw [upd_ne (Ne.symm ne)]; exact n1, l, ns, 0, 0, 17, h1, upd_same, by decide, by decide, by decide, by decide⟩
      refine ⟨⟨H, H, none⟩, some q, _, env0 N.length i, ⟨rf, ?_, fun j s' o g1 g2 => ?_, fun j l' a' s1 s2 g1 g2 o1 o2 g3 g4 => ?_⟩, mono kL _ _ ⟨fun e (he : False) => he.elim, fun d (hd : d = .bool true) v dr' F' H2 rf rv => ?_, fun e (he : False) => he.elim, fun e (he : False) => he.elim⟩ hm⟩
      · unfold env0 L2.start
        simp only [List.length_set, List.length_replicate, List.length_append, List.length_map, List.length_cons, List.length_nil]
        omega
      · unfold env0 at g1
        rcases own_of_get g1 with ⟨rfl, rfl⟩ | ⟨ne', g1⟩
        · rcases st_of_get g2 with ⟨_, rfl⟩ | ⟨z, _⟩
          · exact ⟨q, rfl, rfl⟩
          · exact absurd rfl z
        · rw [(List.mem_replicate.mp (List.mem_of_getElem? g1)).2]
          trivial
      · unfold env0 at g1
        rcases own_of_get g1 with ⟨rfl, rfl⟩ | ⟨ne', g1⟩
        · cases o1
        · rw [(List.mem_replicate.mp (List.mem_of_getElem? g1)).2] at o1
          cases o1
      · subst hd
        cases rv
        exact kq H2
theorem df_mk {l : Program} {h : Heap} {x : Str} {st : Stmt} {f : Addr} {k : Nat} {ps : List Str} {sp : Sp} {od an : Option Addr} {sl : Array (Option Value)} {oc kV dc pm cd ct : Value} (X : K.In h) (G : h.Ns mainGlobals mg)
    (a : PySem.W.nsIn K mainGlobals x = some (some (.ref f))) (lk : K.lookup f = some ⟨oc, od, .func (PySem.W.fnOf x x (defArgs st) (defBody st) (defScope st) .none kV dc pm an cd ct), sl⟩) (c : PySem.W.codeIn K cd x = true) (kp : PySem.W.keepIn K (.ref f) = true)
    (hb : ∀ (kV doc pm : Value) (an : Option Addr) (cdv ct : Value) (us : List Value), us.length = ps.length → bindArgs (PySem.W.fnOf x x (defArgs st) (defBody st) (defScope st) .none kV doc pm an cdv ct) ⟨us, []⟩ = pure (ps.zip us))
    (ok : ∀ f fd, Fun K x x st f fd → FnOk l w K mg base CX0 k f fd ps sp) : Df l w K mg base x k ps sp := by
  have F := fun_mk (st := st) lk c kp
  exact ⟨f, _, PySem.W.mg_of X G a, kp, F.binds hb, ok _ _ F⟩
theorem walk {l : PySem.W.OpenLaw} {q : Program} {loose : List Str} {XP : (Str → Option Value) → Heap → Prop} {YP : World → Heap → Prop} {d : DefRec} {K : Params → PySem.W.Frag} {k : Nat} (hk : Room k callerA) (hn : l.most = some 63) (hdf : d.params.defaults = [])
    (hY : ∀ (w : World) (h : Heap), YP w h → (K w.params).In h)
    (F : ∀ (w : World) (mg : Str → Option Value) (fa : Addr) (h : Heap), (K w.params).In h → h.Ns mainGlobals mg → mg d.name = some (.ref fa) →
      ∃ fd : FuncData, (∀ (s : Shared) (u : Value), BindsTo s fd ⟨[u], []⟩ [("script", u)]) ∧ ∀ base : Heap, (K w.params).In base → base.Ns mainGlobals mg → FnOk l.prog w (K w.params) mg base CX0 k fa fd ["script"] (spLaw (K w.params))) :
    PySem.W.WalkO q loose XP YP l.row.toRowW d [] (fun f vs => PySem.call f vs) :=
  L2.walk_of (n := 63) (k := k) (x := "script") (CX := fun _ => CX0) (sp := fun w => spLaw (K w.params)) hn (by decide) hdf hk hY F (fun _ _ a ns hl _ hS => ⟨a, ns, rfl, hS, hl, fun _ => rfl⟩) fun _ _ _ _ _ z => z
end
end Mi

namespace Mi
open PySem PySem.Spec L2
/-! ### isinstance -/
inductive Ty where
  | list | tuple | str | int | bool
def Ty.nm : Ty → String
  | .list => "list"
  | .tuple => "tuple"
  | .str => "str"
  | .int => "int"
  | .bool => "bool"
def dTy : D → Option String
  | .none => some "NoneType"
  | .bool _ => some "bool"
  | .int _ => some "int"
  | .str _ => some "str"
  | .list _ => some "list"
  | .tuple _ => some "tuple"
  | _ => none
def isK (t : Ty) : D → Option Bool
  | .none => some false
  | .bool _ => some (match t with | .bool => true | .int => true | _ => false)
  | .int _ => some (match t with | .int => true | _ => false)
  | .str _ => some (match t with | .str => true | _ => false)
  | .list _ => some (match t with | .list => true | _ => false)
  | .tuple _ => some (match t with | .tuple => true | _ => false)
  | _ => none
theorem isK_kit {t : Ty} {d : D} {r : Bool} (h : isK t d = some r) : ∃ s, dTy d = some s ∧ kitB s t.nm = some r := by
  cases d <;> simp only [isK, Option.some.injEq, reduceCtorEq] at h <;> refine ⟨_, rfl, ?_⟩ <;> subst h <;> cases t <;> decide +kernel
section
variable {X : Cx} {b b' : Bool} {a c e o : Expr} {ma mc me : SE} {pos apos cpos npos : Pos}
theorem tyx_list {K : Fg} {H : Hp} {a : Addr} {vs : List V} (h : SqL K H a vs) : TyX K H (.ref a) (.type "list") := by
  rcases h with (h | ⟨o, h⟩) | ⟨o, its, n, hk, hc, _⟩
  · exact .base (.lst h)
  · exact .base (.frz h)
  · exact .kList hk hc
theorem tyx_tuple {K : Fg} {H : Hp} {a : Addr} {vs : List V} (h : SqT K H a vs) : TyX K H (.ref a) (.type "tuple") := by
  rcases h with (h | ⟨o, h⟩) | ⟨o, its, n, hk, hc, _⟩
  · exact .base (.tup h)
  · exact .fTuple h
  · exact .kTuple hk hc
theorem Vr.tyx {K : Fg} {y : Cy} {dr : Option Addr} {F H : Hp} {env : En} {σ : L2.St} {d : D} {v : V} (re : Re K y dr F env σ H) (w : Vr K b F env σ d v) {s : String} (h : dTy d = some s) : TyX K H v (.type s) := by
  cases d with
  | none => cases h; rw [w.none]; exact .base .non
  | bool i => cases h; rw [w.bool]; exact .base (.bl i)
  | int i => cases h; rw [w.int]; exact .base (.int i)
  | str i => cases h; rw [w.str.1]; exact .base (.str i)
  | list xs =>
    cases h
    obtain ⟨a, vs, rfl, h1, _⟩ := w.list re
    exact tyx_list (SqL.of h1)
  | tuple xs =>
    cases h
    obtain ⟨a, vs, rfl, h1, _⟩ := w.tuple re
    exact tyx_tuple (re_tuple re h1)
  | _ => cases h
def is1D (t : Ty) (d : D) : Option D := (isK t d).map .bool
def is2D (t t' : Ty) (d : D) : Option D := (isK t d).bind fun r => (isK t' d).map fun r' => .bool (r || r')
theorem pe_ty {t : Ty} {x : Str} (hg : Gl X x) (hm : X.mg x = none) (hv : bootBuiltins x = some (.type t.nm)) (hn : x ≠ "__name__" := by decide) (hd : (x == ("__debug__" : Str)) = false := by decide) : PE X (.Name x pos) (tC (.ty t.nm)) := pe_bltn hg hm hv rfl hn hd
theorem me_is1 {p : Pos} {t : Ty} (hg : Gl X "isinstance") (hm : X.mg "isinstance" = none) (ha : ME X true a ma) (hc : PE X c (tC (.ty t.nm)))
    (he : starEach [a, c] X.env = (false, eval a X.env) :: starEach [c] X.env := by rfl) (he2 : starEach [c] X.env = (false, eval c X.env) :: starEach [] X.env := by rfl) (hpl : (backTo pos (starEach [c] X.env)).any (·.1) = false := by rfl) : ME X b' (.Call (.Name "isinstance" p) [a, c] [] pos) (sUn (is1D t) ma) := by
  refine ⟨⟨fun pins s σ H Q I h => (pe_callB call_isi hg hm PyProof.Rows.boot_isinstance (pa_cons ha.run (pa_cons hc pa_nil he2) he) (by decide) (by decide) he hpl).run pins s σ H Q I ?_⟩, un_mono ha⟩
  obtain ⟨y, dr, F, env, re, hm⟩ := h
  refine ⟨y, dr, F, env, re, ha.mono _ _ _ (fun d hd v H' F' r1 s1 w => ?_) hm⟩
  unfold is1D at hd
  cases q : isK t d with
  | none => rw [q] at hd; exact hd.elim
  | some r =>
    rw [q] at hd
    obtain ⟨s, h1, h2⟩ := isK_kit q
    exact ⟨_, _, _, _, r, rfl, .ty _, w.tyx r1 h1, kit_ty h2, hd _ H' F' r1 s1 (.inl (.bl r))⟩
theorem me_is2 {p tpos : Pos} {t t' : Ty} {k : Nat} {c' : Expr} (hg : Gl X "isinstance") (hm : X.mg "isinstance" = none) (ha : ME X true a ma) (hc : PE X c (tC (.ty t.nm))) (hc' : PE X c' (tC (.ty t'.nm)))
    (he : starEach [a, .Tuple [c, c'] k tpos] X.env = (false, eval a X.env) :: starEach [.Tuple [c, c'] k tpos] X.env := by rfl) (he2 : starEach [.Tuple [c, c'] k tpos] X.env = (false, eval (.Tuple [c, c'] k tpos) X.env) :: starEach [] X.env := by rfl) (hpl : (backTo pos (starEach [.Tuple [c, c'] k tpos] X.env)).any (·.1) = false := by rfl)
    (he3 : starEach [c, c'] X.env = (false, eval c X.env) :: starEach [c'] X.env := by rfl) (he4 : starEach [c'] X.env = (false, eval c' X.env) :: starEach [] X.env := by rfl) : ME X b' (.Call (.Name "isinstance" p) [a, .Tuple [c, c'] k tpos] [] pos) (sUn (is2D t t') ma) := by
  refine ⟨⟨fun pins s σ H Q I h => (pe_callB call_isiT hg hm PyProof.Rows.boot_isinstance (pa_cons ha.run (pa_cons (pe_tup (pa_cons hc (pa_cons hc' pa_nil he4) he3)) pa_nil he2) he) (by decide) (by decide) he hpl).run pins s σ H Q I ?_⟩, un_mono ha⟩
  obtain ⟨y, dr, F, env, re, hm⟩ := h
  refine ⟨y, dr, F, env, re, ha.mono _ _ _ (fun d hd v H' F' r1 s1 w => ?_) hm⟩
  unfold is2D at hd
  cases q : isK t d with
  | none => rw [q] at hd; exact hd.elim
  | some r =>
    rw [q] at hd
    cases q' : isK t' d with
    | none => rw [q'] at hd; exact hd.elim
    | some r' =>
      rw [q'] at hd
      obtain ⟨s, h1, h2⟩ := isK_kit q
      obtain ⟨s', h1', h2'⟩ := isK_kit q'
      rw [h1] at h1'; cases h1'
      refine ⟨by rw [sizeLine_eq]; show 2 ≤ 16777216; decide, fun T hT => ?_⟩
      have r2 := r1.grown (o := .tup [.ty t.nm, .ty t'.nm]) hT
      refine ⟨v, T, [.ty t.nm, .ty t'.nm], .type s, [.type t.nm, .type t'.nm], r || r', rfl, upd_same, .cons (.ty _) (.cons (.ty _) .nil), w.tyx r2 h1, ?_, hd _ _ F' r2 (s1.trans (Ex.grown hT)) (.inl (.bl _))⟩
      refine kitAny_cons (kit_ty h2) (fun z => ?_) (fun z => by rw [z]; rfl)
      subst z
      refine kitAny_cons (kit_ty h2') (fun z => ?_) (fun z => by rw [z]; rfl)
      subst z
      exact kitAny_nil
end
/-! ### sorted -/
def leD' (a c : D) : Bool := PySem.W.dataLe false (fun d : D => d) a c
def srt (xs : List D) : List D := xs.mergeSort leD'
theorem srt_len (xs : List D) : (srt xs).length = xs.length := by unfold srt; rw [List.length_mergeSort]
structure SrtOk (xs : List D) : Prop where
  lay : ∀ d ∈ xs, d.canLay0 = true
  al : PySem.W.AllAlike xs
  so : PySem.W.Sortable xs
  dp : ∀ d ∈ xs, d.depth ≤ 60
def sSort (m : SE) : SL := fun env Q => m env fun d => obL (seqOf d) fun xs => SrtOk xs ∧ Q (srt xs)
theorem zip_vals : ∀ {vs : List V} {us : List Value} {ds : List D}, Vals vs us → vs.length = ds.length → PySem.W.EachIs (fun u (p : V × D) => RelV p.1 u) us (vs.zip ds)
  | _, _, _, .nil, _ => by simp only [List.zip_nil_left]; exact .nil
  | _, _, [], .cons r t, h => by simp at h
  | _, _, d :: ds, .cons r t, h => by
    simp only [List.zip_cons_cons]
    exact .cons r (zip_vals t (by simpa using h))
theorem each_vals : ∀ {us : List Value} {ps : List (V × D)}, PySem.W.EachIs (fun u (p : V × D) => RelV p.1 u) us ps → Vals (ps.map (·.1)) us
  | _, _, .nil => .nil
  | _, _, .cons r t => .cons r (each_vals t)
theorem rvs_zip {K : Fg} {F : Hp} : ∀ {ds : List D} {vs : List V}, Rvs K F ds vs → ∀ p ∈ vs.zip ds, Rv K F p.2 p.1
  | _, _, .nil, p, h => by simp at h
  | _, _, .cons r t, p, h => by
    simp only [List.zip_cons_cons, List.mem_cons] at h
    rcases h with rfl | h
    · exact r
    · exact rvs_zip t p h
theorem zip_rvs {K : Fg} {F : Hp} : ∀ {ps : List (V × D)}, (∀ p ∈ ps, Rv K F p.2 p.1) → Rvs K F (ps.map (·.2)) (ps.map (·.1))
  | [], _ => .nil
  | p :: ps, h => .cons (h p (by simp)) (zip_rvs fun q hq => h q (by simp [hq]))
section
variable {X : Cx} {b b' : Bool} {a c e o : Expr} {ma mc me : SE} {pos apos cpos npos : Pos}
def rSortD (X : Cx) : List V → Hp → VK → Prop := fun xs H Q => ∃ (a : Addr) (vs : List V) (ds : List D), xs = [.ref a] ∧ SqL X.G H a vs ∧ vs.length = ds.length ∧ (∀ p ∈ vs.zip ds, Dp X.G H p.1 p.2) ∧ PySem.W.AllAlike ds ∧ PySem.W.Sortable ds ∧ (∀ d ∈ ds, d.depth ≤ 60) ∧
  ∀ p, H p = none → Q (.ref p) (upd H p (.lst (((vs.zip ds).mergeSort fun p q => leD' p.2 q.2).map (·.1))))
theorem map_snd_zip : ∀ {vs : List V} {ds : List D}, vs.length = ds.length → (vs.zip ds).map (·.2) = ds
  | [], [], _ => rfl
  | v :: vs, d :: ds, h => by
    simp only [List.zip_cons_cons, List.map_cons, map_snd_zip (by simpa using h : vs.length = ds.length)]
theorem cr_sortD (hu : X.A.units + 65 < cLine) : CallR X (.builtin "sorted") (rSortD X) := by
  intro pins s σ H xs us Q I r h
  obtain ⟨a, vs, ds, rfl, hs, hl, hd, hal, hso, hdp, q⟩ := h
  obtain ⟨its, rv, pl, hz⟩ := I.list hs
  rw [Vals.ref1 r]
  have ez := zip_vals rv hl
  have er : PySem.W.EachIs (fun u (p : V × D) => ∃ as, PySem.Reads s.heap u p.2 as) its (vs.zip ds) := by
    have : ∀ {us : List Value} {ps : List (V × D)}, PySem.W.EachIs (fun u (p : V × D) => RelV p.1 u) us ps → (∀ p ∈ ps, Dp X.G H p.1 p.2) → PySem.W.EachIs (fun u (p : V × D) => ∃ as, PySem.Reads s.heap u p.2 as) us ps := by
      intro us ps e
      induction e with
      | nil => intro _; exact .nil
      | cons r t ih => intro h; exact .cons (Dp.reads I _ _ _ (h _ (by simp)) r) (ih fun p hp => h p (by simp [hp]))
    exact this ez hd
  have e2 := map_snd_zip hl
  have hlen : (vs.zip ds).length = vs.length := by rw [List.length_zip, ← hl]; simp
  refine PySem.W.sorted_data (β := V × D) (enc := fun p => p.2) (R := fun u p => RelV p.1 u) pl.isList ez er (by rw [e2]; exact hal) (by rw [e2]; exact hso) (by rw [hlen]; exact hz) (fun p hp => ?_) fun out ho eo => ?_
  · have := hdp p.2 (by rw [← e2]; exact List.mem_map_of_mem hp)
    omega
  · obtain ⟨ep, he'⟩ := PyProof.Rows.sortedAll_at s.heap its out.toArray
    have ev := each_vals eo
    refine ⟨.ref _, upd H (s.heap.objs.size + 1) (.lst (((vs.zip ds).mergeSort fun p q => leD' p.2 q.2).map (·.1))), I.laid (t' := s.toks) (fun _ _ => PyProof.Rows.sortedAll_old) (Nat.le_succ _) ⟨?_, out, ep, ev, he'⟩, rfl, q _ (I.hok.fresh (Nat.le_succ _))⟩
    rw [List.length_map, List.length_mergeSort, hlen]
    exact hz
open PyProof.Rows in
theorem col_tup {prog : Program} {w : World} {A : Around} {E : Value → Shared → Prop} {s : Shared} {l : Addr} {vs : List Value} {Q : List Value → Shared → Prop} (hl : s.heap.IsTuple l vs.toArray) (hz : vs.length ≤ sizeLine)
    (h : ∀ hp, (∀ b o, s.heap.get? b = some o → hp.get? b = some o) → s.heap.objs.size ≤ hp.objs.size → Q vs { s with heap := hp }) : wpAny (model prog w) A (collect (.ref l)) Q E s := by
  obtain ⟨o, ho, hc, n, hd⟩ := id hl
  unfold collect
  apply wpAny_bind
  apply wpAny_runValue
  apply codeAny_builtin entry_proto_collect'
  show wpAny _ _ (do
    again (.builtin "list.__iadd__" ⟨[← newList [],
      .ref l], []⟩)) _ _ s
  apply wpAny_bind
  refine wpAny_newList ?_ (Nat.zero_le _)
  apply wpAny_pure
  refine ⟨Code.quiet_builtin _ (by decide +kernel), ?_⟩
  apply codeAny_builtin entry_list_iadd'
  have h1 : (s.heap.push (seqObj "list" #[] 0)).get? l = some o := Heap.get?_push_of_some _ ho
  have h2 : (s.heap.push (seqObj "list" #[] 0)).get? s.heap.objs.size
      = some (seqObj "list" #[] 0) := Heap.get?_push_size _ rfl
  let s2 : Shared := { s with heap := (s.heap.push (seqObj "list" #[] 0)).update s.heap.objs.size (Obj.mapSeq (· ++ vs.toArray)) }
  have h3 : s2.heap.get? s.heap.objs.size = _ := get?_update_seq h2 (· ++ vs.toArray)
  have e2 : (#[] ++ vs.toArray : Array Value).toList = vs := by simp
  have hQ : Q (#[] ++ vs.toArray : Array Value).toList s2 := by
    rw [e2]
    refine h _ (fun b o e => ?_) ?_
    · have hb := Heap.lt_size e
      rw [Heap.get?_update_ne _ _ _ _ (Nat.ne_of_lt hb)]
      exact Heap.get?_push_of_some _ e
    · rw [Heap.size_update, size_push']; omega
  refine wpAny_mono (wpAny_extend_seq (A := A) (s := { s with heap := s.heap.push (seqObj "list" #[] 0) }) (R := fun r t => r = .ok (.ret (.ref s.heap.objs.size)) ∧ t = s2) s.heap.objs.size l (.ref s.heap.objs.size) 0 (.inr rfl) h2 h1 hc hd ⟨rfl, rfl⟩ (by simpa using hz)) (fun fin t ht => ?_) (fun e t ht => ?_)
  · cases fin with
    | done f =>
      obtain ⟨e1, rfl⟩ := ht
      cases e1
      exact wpAny_bind (wpAny_load h3 (wpAny_pure hQ))
    | again c =>
      refine ⟨ht.1, codeAny_mono ht.2 fun r t hr => ?_⟩
      obtain ⟨rfl, rfl⟩ := hr
      exact wpAny_bind (wpAny_load h3 (wpAny_pure hQ))
  · obtain ⟨e1, _⟩ := ht
    cases e1
def rSortDT (X : Cx) : List V → Hp → VK → Prop := fun xs H Q => ∃ (a : Addr) (vs : List V) (ds : List D), xs = [.ref a] ∧ SqT X.G H a vs ∧ vs.length = ds.length ∧ (∀ p ∈ vs.zip ds, Dp X.G H p.1 p.2) ∧ PySem.W.AllAlike ds ∧ PySem.W.Sortable ds ∧ (∀ d ∈ ds, d.depth ≤ 60) ∧
  ∀ p, H p = none → Q (.ref p) (upd H p (.lst (((vs.zip ds).mergeSort fun p q => leD' p.2 q.2).map (·.1))))
open PyProof.Rows in
theorem cr_sortDT (hu : X.A.units + 65 < cLine) : CallR X (.builtin "sorted") (rSortDT X) := by
  intro pins s σ H xs us Q I r h
  obtain ⟨a, vs, ds, rfl, hs, hl, hd, hal, hso, hdp, q⟩ := h
  obtain ⟨its, rv, pl, hz⟩ := I.tuple hs
  rw [Vals.ref1 r]
  have ez := zip_vals rv hl
  have e2 := map_snd_zip hl
  have hlen : (vs.zip ds).length = vs.length := by rw [List.length_zip, ← hl]; simp
  have hits : its.length ≤ sizeLine := by rw [← rv.length]; exact hz
  apply Calls.call_function_entry kind_sorted plain_sorted
  · exact entry_sorted
  · exact args_sorted1 _
  unfold Builtin.«sorted»
  apply wpAny_bind (m := checkCount "sorted" 1 1 _)
  refine wpAny_pure (wpAny_bind (col_tup pl hits fun hp k1 z1 => ?_))
  refine wpAny_bind (wpAny_newList ?_ hits)
  have hoL : (hp.push (seqObj "list" its.toArray 0)).get? hp.objs.size = some (seqObj "list" its.toArray 0) := Heap.get?_push_size _ rfl
  have k2 : ∀ b o, s.heap.get? b = some o → b ≠ hp.objs.size ∧ b < (hp.push (seqObj "list" its.toArray 0)).objs.size ∧ (hp.push (seqObj "list" its.toArray 0)).get? b = some o := fun b o e => by
    have e1 := k1 b o e
    have e3 := Heap.lt_size e1
    exact ⟨Nat.ne_of_lt e3, by rw [size_push']; exact Nat.lt_succ_of_lt e3, Heap.get?_push_of_some _ e1⟩
  have er : PySem.W.EachIs (fun u (p : V × D) => ∃ as, PySem.Reads (PySem.W.sortingHeap (hp.push (seqObj "list" its.toArray 0)) hp.objs.size its) u p.2 as) its (vs.zip ds) := by
    have : ∀ {us : List Value} {ps : List (V × D)}, PySem.W.EachIs (fun u (p : V × D) => RelV p.1 u) us ps → (∀ p ∈ ps, Dp X.G H p.1 p.2) → PySem.W.EachIs (fun u (p : V × D) => ∃ as, PySem.Reads (PySem.W.sortingHeap (hp.push (seqObj "list" its.toArray 0)) hp.objs.size its) u p.2 as) us ps := by
      intro us ps e
      induction e with
      | nil => intro _; exact .nil
      | cons r t ih =>
        intro h
        obtain ⟨as, ra⟩ := Dp.reads I _ _ _ (h _ (by simp)) r
        exact .cons ⟨as, PyProof.Rows.Reads.keeps (fun b o e => PySem.W.sortingHeap_old (k2 b o e).1 (k2 b o e).2.2) ra⟩ (ih fun p hp => h p (by simp [hp]))
    exact this ez hd
  have hlk : (vs.zip ds).length ≤ sizeLine := by rw [hlen]; exact hz
  have hso2 := PySem.W.SortsAt.data (A := X.A.in1.in1) (prog := X.prog) (w := X.w) (s := { s with heap := PySem.W.sortingHeap (hp.push (seqObj "list" its.toArray 0)) hp.objs.size its }) (PySem.W.each_map (fun p : V × D => p.2) er) (by rw [e2]; exact hal) (by rw [e2]; exact hso) (PySem.W.bound_map fun p hp => by
    have h1 := hdp p.2 (by rw [← e2]; exact List.mem_map_of_mem hp)
    show X.A.units + 1 + 1 + p.2.depth < cLine
    omega)
  apply wpAny_bind
  apply wpAny_holding
  refine wpAny_call_entry slot_list_sort ⟨_, hoL, rfl⟩ entry_list_sort ?_ (args_list_sort _)
  refine PySem.W.list_sort_vals (κ := PySem.W.dataKind (PySem.W.sortingHeap (hp.push (seqObj "list" its.toArray 0)) hp.objs.size its) ((vs.zip ds).map fun p => p.2)) hoL hso2 hits ⟨_, rfl, wpAny_pure ⟨_, rfl, ?_⟩⟩
  obtain ⟨c, hc⟩ := sortedHeap_at (vs := its) (out := (PySem.W.sortVals (PySem.W.dataKind (PySem.W.sortingHeap (hp.push (seqObj "list" its.toArray 0)) hp.objs.size its) ((vs.zip ds).map fun p => p.2)) false its its).toArray) hoL
  have ev := each_vals (PySem.W.sortVals_data (enc := fun p : V × D => p.2) false ez er (by rw [e2]; exact hal))
  have hf : H hp.objs.size = none := I.hok.fresh z1
  refine ⟨.ref _, upd H hp.objs.size (.lst (((vs.zip ds).mergeSort fun p q => leD' p.2 q.2).map (·.1))), I.laid (t' := s.toks) (fun b o e => ?_) z1 ⟨?_, _, c, ev, hc⟩, rfl, q _ hf⟩
  · exact (sortedHeap_old (k2 b o e).1 (k2 b o e).2.1).trans (k2 b o e).2.2
  · rw [List.length_map, List.length_mergeSort, hlen]
    exact hz
theorem mf_sorted {p : Pos} (hu : X.A.units + 65 < cLine) (hg : Gl X "sorted") (hm : X.mg "sorted" = none) (ha : ME X true a ma) (he : starEach [a] X.env = (false, eval a X.env) :: starEach [] X.env := by rfl) (hpl : (backTo pos (starEach [] X.env)).any (·.1) = false := by rfl) : MF X (.Call (.Name "sorted" p) [a] [] pos) (sSort ma) := by
  refine ⟨⟨fun pins s σ H Q I hq => (pe_callB ((cr_sortD hu).or (cr_sortDT hu)) hg hm (by decide +kernel) (pa_cons ha.run pa_nil he) (by decide) (by decide) he hpl).run pins s σ H Q I ?_⟩, fun env P Q k hp => ha.mono _ _ _ (fun d h1 => obL_mono (fun xs h => ⟨h.1, k _ h.2⟩) h1) hp⟩
  obtain ⟨y, dr, F, env, re, hm⟩ := hq
  refine ⟨y, dr, F, env, re, ha.mono _ _ _ (fun d1 h1 v1 H1 F1 r1 s1 w1 => ?_) hm⟩
  cases q : seqOf d1 with
  | none => rw [q] at h1; exact h1.elim
  | some xs =>
    rw [q] at h1
    obtain ⟨ok, h1⟩ := h1
    have fin : ∀ {vs : List V} {p : Addr}, Rvs X.G F1 xs vs → xs.length ≤ sizeLine → H1 p = none → Rvs X.G F1 (srt xs) (((vs.zip xs).mergeSort fun p q => leD' p.2 q.2).map (·.1)) := by
      intro vs p rv z1 hp
      have := zip_rvs (K := X.G) (F := F1) (ps := (vs.zip xs).mergeSort fun p q => leD' p.2 q.2) fun p hp => rvs_zip rv p (List.mem_mergeSort.mp hp)
      rw [List.map_mergeSort (s := leD') (fun _ _ _ _ => rfl), map_snd_zip rv.length.symm] at this
      exact this
    cases d1 with
    | list zs =>
      cases q
      obtain ⟨a1, vs, rfl, e1, z1, rv⟩ := w1.list r1
      refine .inl ⟨a1, vs, xs, rfl, SqL.of e1, rv.length.symm, fun p hp => ?_, ok.al, ok.so, ok.dp, fun p hp => ?_⟩
      · have hm : p.2 ∈ xs := (List.of_mem_zip hp).2
        exact dp_mono r1.rf.sub ((rvs_zip rv p hp).dp (ok.lay _ hm))
      · exact new_lst r1 s1 hp (xs := srt xs) (fin rv z1 hp) (by rw [srt_len]; exact z1) h1
    | tuple zs =>
      cases q
      obtain ⟨a1, vs, rfl, e1, z1, rv⟩ := w1.tuple r1
      refine .inr ⟨a1, vs, xs, rfl, re_tuple r1 e1, rv.length.symm, fun p hp => ?_, ok.al, ok.so, ok.dp, fun p hp => ?_⟩
      · have hm : p.2 ∈ xs := (List.of_mem_zip hp).2
        exact dp_mono r1.rf.sub ((rvs_zip rv p hp).dp (ok.lay _ hm))
      · exact new_lst r1 s1 hp (xs := srt xs) (fin rv z1 hp) (by rw [srt_len]; exact z1) h1
    | _ => cases q
end
end Mi

namespace Mi
open PySem PySem.Spec L2
/-! ### a, b, .. = x, [], ..: several at once, new lists among them -/
abbrev SX := En → (List Sl → Prop) → Prop
/-- an item: a value, or a new list of nobody's -/
def XOk (K : Fg) (y : Cy) (dr : Option Addr) (F H : Hp) (env : En) (σ : L2.St) : Sl → V → Prop
  | .v d, v => Rv K F d v
  | .l xs, v => ∃ p vs, v = .ref p ∧ H p = some (.lst vs) ∧ Free y dr F env σ p ∧ Rvs K F xs vs ∧ xs.length ≤ sizeLine
  | .k kvs, v => ∃ p kws, v = .ref p ∧ H p = some (.dK kws) ∧ Free y dr F env σ p ∧ Rks K F (kdD kvs) kws
  | _, _ => False
inductive XAll (K : Fg) (y : Cy) (dr : Option Addr) (F H : Hp) (env : En) (σ : L2.St) : List Sl → List V → Prop
  | nil : XAll K y dr F H env σ [] []
  | cons {s : Sl} {v : V} {ss : List Sl} {vs : List V} : XOk K y dr F H env σ s v → (s.own = true → ∀ s' v', (s', v') ∈ ss.zip vs → s'.own = true → v' ≠ v) → XAll K y dr F H env σ ss vs → XAll K y dr F H env σ (s :: ss) (v :: vs)
def lX (K : Fg) (m : SX) : TA := fun σ H Q => ∃ y dr F env, Re K y dr F env σ H ∧ m env fun its => ∀ vs H' F', Re K y dr F' env σ H' → Ex dr F H F' H' → XAll K y dr F' H' env σ its vs → Q vs H'
structure MX (X : Cx) (es : List Expr) (m : SX) : Prop where
  run : PA X es (lX X.G m)
  mono : ∀ env (P Q : List Sl → Prop), (∀ d, P d → Q d) → m env P → m env Q
  len : ∀ env (P : List Sl → Prop), m env P → m env fun ds => ds.length = es.length ∧ P ds
def xNil : SX := fun _ Q => Q []
def xV (m : SE) (r : SX) : SX := fun env Q => m env fun d => r env fun its => Q (.v d :: its)
def xL (m : SL) (r : SX) : SX := fun env Q => m env fun xs => r env fun its => Q (.l xs :: its)
section
variable {X : Cx} {b b' : Bool} {a c e o : Expr} {es : List Expr} {ma mc me : SE} {ml : SL} {mr : SX} {pos apos cpos npos : Pos}
theorem mx_nil : MX X [] xNil := by
  refine ⟨⟨fun pos pins s σ H Q I h => pa_nil.run pos pins s σ H Q I ?_⟩, fun env P Q k h => k _ h, fun env P h => ⟨rfl, h⟩⟩
  obtain ⟨y, dr, F, env, re, hm⟩ := h
  exact hm [] H F re Ex.refl .nil
theorem mx_v (ha : ME X false e me) (hr : MX X es mr) (hs : starEach (e :: es) X.env = (false, eval e X.env) :: starEach es X.env := by rfl) : MX X (e :: es) (xV me mr) := by
  refine ⟨⟨fun pos pins s σ H Q I h => (pa_cons ha.run hr.run hs).run pos pins s σ H Q I ?_⟩, fun env P Q k h => ha.mono _ _ _ (fun d h1 => hr.mono _ _ _ (fun ds h2 => k _ h2) h1) h,
    fun env P h => ha.mono _ _ _ (fun d h1 => hr.mono _ _ _ (fun ds h2 => ⟨congrArg (· + 1) h2.1, h2.2⟩) (hr.len _ _ h1)) h⟩
  obtain ⟨y, dr, F, env, re, hm⟩ := h
  refine ⟨y, dr, F, env, re, ha.mono _ _ _ (fun d hd v H1 F1 r1 s1 w1 => ?_) hm⟩
  exact ⟨y, dr, F1, env, r1, hr.mono _ _ _ (fun ds hds vs H2 F2 r2 s2 w2 => hds (v :: vs) H2 F2 r2 (s1.trans s2) (.cons (w1.rv.mono s2.f) (fun e => nomatch e) w2)) hd⟩
theorem xall_own {K : Fg} {y : Cy} {dr : Option Addr} {F H : Hp} {env : En} {σ : L2.St} : ∀ {ss : List Sl} {vs : List V}, XAll K y dr F H env σ ss vs → ∀ s' v', (s', v') ∈ ss.zip vs → s'.own = true → ∃ p, v' = .ref p ∧ Free y dr F env σ p
  | _, _, .nil, s', v', h, _ => by simp at h
  | _, _, .cons (s := s) (v := v) a q t, s', v', h, o => by
    simp only [List.zip_cons_cons, List.mem_cons, Prod.mk.injEq] at h
    rcases h with ⟨rfl, rfl⟩ | h
    · cases s' with
      | l xs => obtain ⟨p, ws, h1, h2, h3, _⟩ := a; exact ⟨p, h1, h3⟩
      | k kvs => obtain ⟨p, ws, h1, h2, h3, _⟩ := a; exact ⟨p, h1, h3⟩
      | _ => cases a <;> cases o
    · exact xall_own t s' v' h o
theorem xall_y {K : Fg} {y y' : Cy} {dr : Option Addr} {F H : Hp} {env : En} {σ : L2.St} (h : ∀ p, F p = none → y'.H0 p = none → y.H0 p = none) : ∀ {ss : List Sl} {vs : List V}, XAll K y' dr F H env σ ss vs → XAll K y dr F H env σ ss vs
  | _, _, .nil => .nil
  | _, _, .cons (s := s) (v := v) a q t => .cons (by
      cases s with
      | v d => exact a
      | l xs => obtain ⟨p, ws, h1, h2, h3, h4⟩ := a; exact ⟨p, ws, h1, h2, ⟨h3.nF, h p h3.nF h3.nH, h3.nd, h3.no⟩, h4⟩
      | k xs => obtain ⟨p, ws, h1, h2, h3, h4⟩ := a; exact ⟨p, ws, h1, h2, ⟨h3.nF, h p h3.nF h3.nH, h3.nd, h3.no⟩, h4⟩
      | _ => exact a) q (xall_y h t)
/-- a state in which all that stands now counts as the caller's, but for the own objects -/
theorem Re.keepAll {K : Fg} {y : Cy} {dr : Option Addr} {F H : Hp} {env : En} {σ : L2.St} (re : Re K y dr F env σ H) :
    ∃ y', Re K y' dr F env σ H ∧ (∀ p, (∀ (i : Nat) (s : Sl), env[i]? = some s → s.own = true → σ[i]? ≠ some (some (.ref p))) → H p ≠ none → y'.H0 p ≠ none) ∧
      ∀ (F' H' : Hp), Re K y' dr F' env σ H' → Same F F' → Re K y dr F' env σ H' ∧ (∀ p, F p = none → (∀ (i : Nat) (s : Sl), env[i]? = some s → s.own = true → σ[i]? ≠ some (some (.ref p))) → H p ≠ none → F' p = none) ∧ ∀ p, F' p = none → y'.H0 p = none → y.H0 p = none := by
  obtain ⟨y', rin, out⟩ := re.blkIn []
  have rin : Re K y' dr F env σ H := rin
  classical
  refine ⟨⟨F, fun a => if (∃ (i : Nat) (s : Sl), env[i]? = some s ∧ s.own = true ∧ σ[i]? = some (some (.ref a))) then none else H a, dr⟩, ⟨?_, re.len, ?_, re.sep⟩, ?_, ?_⟩
  · refine ⟨re.rf.sub, Same.refl _, fun a h => .inl h, fun a o h _ => ?_, fun a h => ?_, re.rf.drw, .inr rfl, fun a h => .inl h⟩
    · simp only at h
      split at h
      · cases h
      · exact h
    · simp only at h
      split at h
      · exact absurd rfl h
      · exact h
  · intro i s o h1 h2
    refine (re.slot i s o h1 h2).keep (Same.refl _) fun a ha w => ?_
    obtain ⟨c, e1, e2, e3, e4, e5⟩ := (re.slot i s o h1 h2).there w
    rw [ha] at e1; cases e1
    exact ⟨rfl, e3, by simp only; rw [if_pos ⟨i, s, h1, w, by rw [h2, ha]⟩]⟩
  · intro p hp hH
    simp only
    rw [if_neg (fun ⟨i, s, h1, h2, h3⟩ => hp i s h1 h2 h3)]
    exact hH
  · intro F' H' r' sF
    have own : ∀ a, (∃ (i : Nat) (s : Sl), env[i]? = some s ∧ s.own = true ∧ σ[i]? = some (some (.ref a))) → y.H0 a = none := fun a ⟨i, s, h1, h2, h3⟩ => by
      obtain ⟨c, e1, _, _, e4, _⟩ := (re.slot i s _ h1 h3).there h2
      cases e1; exact e4
    refine ⟨⟨⟨r'.rf.sub, re.rf.sup.trans sF, fun a h => ?_, fun a o h n => ?_, fun a h => ?_, r'.rf.drw, re.rf.drs, re.rf.drn⟩, r'.len, fun i s o h1 h2 => ?_, r'.sep⟩, fun p hF hn hH => ?_, fun p hF hz => ?_⟩
    · rcases r'.rf.new a h with z | z
      · exact re.rf.new a z
      · simp only at z
        split at z
        · rename_i q
          exact .inr (own a q)
        · exact .inr (by
            cases q : y.H0 a with
            | none => rfl
            | some o => exact absurd z (re.rf.dom a (by rw [q]; simp)))
    · have hH := re.rf.gr a o h n
      refine r'.rf.gr a o ?_ ?_
      · simp only
        rw [if_neg (fun q => by rw [own a q] at h; cases h)]
        exact hH
      · intro e
        have e : some a = dr := e
        rcases re.rf.drs with z | z
        · rcases re.rf.drn a e.symm with z' | z'
          · rw [z] at z'; cases z'
          · rw [h] at z'; cases z'
        · exact n (by rw [e]; exact z)
    · refine r'.rf.dom a ?_
      simp only
      rw [if_neg (fun q => h (own a q))]
      exact re.rf.dom a h
    · refine (r'.slot i s o h1 h2).keep (Same.refl _) fun a ha w => ?_
      obtain ⟨c, e1, e2, e3, e4, e5⟩ := (r'.slot i s o h1 h2).there w
      rw [ha] at e1; cases e1
      exact ⟨rfl, e3, own a ⟨i, s, h1, w, by rw [h2, ha]⟩⟩
    · cases q : F' p with
      | none => rfl
      | some o =>
        rcases r'.rf.new p (by rw [q]; simp) with z | z
        · exact absurd hF z
        · simp only at z
          rw [if_neg (fun ⟨i, s, h1, h2, h3⟩ => hn i s h1 h2 h3)] at z
          exact absurd z hH
    · simp only at hz
      split at hz
      · rename_i q
        exact own p q
      · cases q : y.H0 p with
        | none => rfl
        | some o => exact absurd hz (re.rf.dom p (by rw [q]; simp))
theorem mx_l (ha : MF X e ml) (hr : MX X es mr) (hs : starEach (e :: es) X.env = (false, eval e X.env) :: starEach es X.env := by rfl) : MX X (e :: es) (xL ml mr) := by
  refine ⟨⟨fun pos pins s σ H Q I h => (pa_cons ha.run hr.run hs).run pos pins s σ H Q I ?_⟩, fun env P Q k h => ha.mono _ _ _ (fun d h1 => hr.mono _ _ _ (fun ds h2 => k _ h2) h1) h,
    fun env P h => ha.mono _ _ _ (fun d h1 => hr.mono _ _ _ (fun ds h2 => ⟨congrArg (· + 1) h2.1, h2.2⟩) (hr.len _ _ h1)) h⟩
  obtain ⟨y, dr, F, env, re, hm⟩ := h
  refine ⟨y, dr, F, env, re, ha.mono _ _ _ (fun xs hd p vs H1 F1 r1 s1 hp fr rv hz => ?_) hm⟩
  obtain ⟨y', ri, hin, out⟩ := r1.keepAll
  refine ⟨y', dr, F1, env, ri, hr.mono _ _ _ (fun its hits ws H2 F2 r2 s2 w2 => ?_) hd⟩
  obtain ⟨o1, o2, o3⟩ := out F2 H2 r2 s2.f
  have hp2 : H2 p = some (.lst vs) := s2.k p _ hp fr.nd
  refine hits (.ref p :: ws) H2 F2 o1 (s1.trans s2) (.cons ⟨p, vs, rfl, hp2, ⟨o2 p fr.nF fr.no (by rw [hp]; simp), fr.nH, fr.nd, fr.no⟩, rv.mono s2.f, hz⟩ (fun _ s' v' hm ho e => ?_) (xall_y o3 w2))
  obtain ⟨q, h1, h2⟩ := xall_own w2 s' v' hm ho
  rw [e] at h1; cases h1
  exact hin p fr.no (by rw [hp]; simp) h2.nH
/-- the row of items into the slots -/
def putX (env : En) : List Nat → List Sl → En
  | i :: is, s :: ss => putX (env.set i s) is ss
  | _, _ => env
def putV' (σ : L2.St) : List Nat → List V → L2.St
  | i :: is, v :: vs => putV' (σ.set i (some v)) is vs
  | _, _ => σ
theorem xall_put {K : Fg} {y : Cy} {dr : Option Addr} {F H : Hp} : ∀ {is : List Nat} {its : List Sl} {vs : List V} {env : En} {σ : L2.St}, Re K y dr F env σ H → XAll K y dr F H env σ its vs → is.length = its.length → Re K y dr F (putX env is its) (putV' σ is vs) H
  | [], [], [], _, _, re, _, _ => re
  | i :: is, s :: ss, v :: vs, env, σ, re, .cons a q t, hl => by
    have hq : is.length = ss.length := by simpa using hl
    cases s with
    | v d =>
      refine xall_put (is := is) (re.putV (i := i) a) (xall_env t fun s' v' _ _ p _ fr => ?_) hq
      refine ⟨fr.nF, fr.nH, fr.nd, fun j s1 h1 h2 h3 => ?_⟩
      rcases own_of_get h1 with ⟨rfl, rfl⟩ | ⟨ne, h1⟩
      · cases h2
      · rcases st_of_get h3 with ⟨e, _⟩ | ⟨_, h3⟩
        · exact ne e
        · exact fr.no j s1 h1 h2 h3
    | l xs =>
      obtain ⟨p, ws, rfl, h2, fr, rv, hz⟩ := a
      refine xall_put (is := is) (re.putL (i := i) h2 fr rv hz) (xall_env t fun s' v' hm ho p' hp' fr' => ?_) hq
      refine ⟨fr'.nF, fr'.nH, fr'.nd, fun j s1 h1 h2' h3 => ?_⟩
      rcases own_of_get h1 with ⟨rfl, rfl⟩ | ⟨ne, h1⟩
      · rcases st_of_get h3 with ⟨_, e⟩ | ⟨ne, _⟩
        · cases e
          exact q rfl s' v' hm ho hp'
        · exact ne rfl
      · rcases st_of_get h3 with ⟨e, _⟩ | ⟨_, h3⟩
        · exact ne e
        · exact fr'.no j s1 h1 h2' h3
    | k kvs =>
      obtain ⟨p, ws, rfl, h2, fr, rv⟩ := a
      have hput : Re K y dr F (env.set i (.k kvs)) (σ.set i (some (.ref p))) H := re.put ⟨p, ws, rfl, h2, rv, fr.nF, fr.nH, fr.nd⟩ fun _ a e j s' _ h1 h2 h3 => by cases e; exact fr.no j s' h1 h2 h3
      refine xall_put (is := is) hput (xall_env t fun s' v' hm ho p' hp' fr' => ?_) hq
      refine ⟨fr'.nF, fr'.nH, fr'.nd, fun j s1 h1 h2' h3 => ?_⟩
      rcases own_of_get h1 with ⟨rfl, rfl⟩ | ⟨ne, h1⟩
      · rcases st_of_get h3 with ⟨_, e⟩ | ⟨ne, _⟩
        · cases e
          exact q rfl s' v' hm ho hp'
        · exact ne rfl
      · rcases st_of_get h3 with ⟨e, _⟩ | ⟨_, h3⟩
        · exact ne e
        · exact fr'.no j s1 h1 h2' h3
    | _ => exact a.elim
where xall_env {K : Fg} {y : Cy} {dr : Option Addr} {F H : Hp} {env env' : En} {σ σ' : L2.St} : ∀ {ss : List Sl} {vs : List V}, XAll K y dr F H env σ ss vs → (∀ s' v', (s', v') ∈ ss.zip vs → s'.own = true → ∀ p, v' = .ref p → Free y dr F env σ p → Free y dr F env' σ' p) → XAll K y dr F H env' σ' ss vs
  | _, _, .nil, _ => .nil
  | _, _, .cons (s := s) (v := v) a q t, h => .cons (by
      cases s with
      | v d => exact a
      | l xs => obtain ⟨p, ws, h1, h2, h3, h4⟩ := a; exact ⟨p, ws, h1, h2, h (.l xs) v (by simp) rfl p h1 h3, h4⟩
      | k xs => obtain ⟨p, ws, h1, h2, h3, h4⟩ := a; exact ⟨p, ws, h1, h2, h (.k xs) v (by simp) rfl p h1 h3, h4⟩
      | _ => exact a) q (xall_env t fun s' v' hm => h s' v' (by simp [hm]))
theorem xall_len {K : Fg} {y : Cy} {dr : Option Addr} {F H : Hp} {env : En} {σ : L2.St} : ∀ {ss : List Sl} {vs : List V}, XAll K y dr F H env σ ss vs → ss.length = vs.length
  | _, _, .nil => rfl
  | _, _, .cons _ _ t => congrArg (· + 1) (xall_len t)
def sParX (is : List Nat) (m : SX) : SS := fun K env => m env fun its => K.nx (putX env is its)
theorem sParX_mono {is : List Nat} (hm : MX X es mr) (a c : Ks) (env : En) (k : KLe a c) (h : sParX is mr a env) : sParX is mr c env := hm.mono _ _ _ (fun its h => k.nx _ h) h
theorem ms_parX {i j : Nat} {x z : Str} {px py pt : Pos} {kt k2 pt2} (hc : X.calm = true) (hN : X.N.Nodup) (hi : X.N[i]? = some x) (hj : X.N[j]? = some z) (hij : i ≠ j)
    (hx : X.env.scope.names.lookup x = some .local) (hy : X.env.scope.names.lookup z = some .local) (ha : MX X [a, c] mr)
    (hw : swappedStores [.Tuple [.Name x px, .Name z py] kt pt] (.Tuple [a, c] k2 pt2) X.env = pure (some [x, z]))
    (hs : swapsWithSole [.Tuple [.Name x px, .Name z py] kt pt] (.Tuple [a, c] k2 pt2) pos.line X.env = pure false := by rfl) :
    MS X (.Assign [.Tuple [.Name x px, .Name z py] kt pt] (.Tuple [a, c] k2 pt2) pos) (sParX [i, j] mr) := by
  refine ⟨⟨fun pins s σ H E I h => (ps_par hc hN hi hj hij hx hy ha.run hw hs).run pins s σ H E I ?_⟩, sParX_mono ha⟩
  obtain ⟨y, dr, F, env, re, hm⟩ := h
  refine ⟨y, dr, F, env, re, ha.mono _ _ _ (fun its hd vs H' F' r1 s1 w => ?_) (ha.len _ _ hm)⟩
  have h1 := xall_len w
  have h2 := xall_put r1 w (is := [i, j]) hd.1.symm
  have hl : vs.length = 2 := by rw [← h1, hd.1]; rfl
  match vs, hl with
  | [v1, v2], _ => exact ⟨v1, v2, rfl, hd.2 dr F' _ H' h2 s1.f⟩
theorem ms_parX3 {i j l : Nat} {x z w : Str} {b : Expr} {px py pz pt : Pos} {kt k2 pt2} (hc : X.calm = true) (hN : X.N.Nodup) (hi : X.N[i]? = some x) (hj : X.N[j]? = some z) (hl : X.N[l]? = some w) (hij : i ≠ j) (hil : i ≠ l) (hjl : j ≠ l)
    (hx : X.env.scope.names.lookup x = some .local) (hy : X.env.scope.names.lookup z = some .local) (hz : X.env.scope.names.lookup w = some .local) (ha : MX X [a, b, c] mr)
    (hw : swappedStores [.Tuple [.Name x px, .Name z py, .Name w pz] kt pt] (.Tuple [a, b, c] k2 pt2) X.env = pure (some [x, z, w]))
    (hs : swapsWithSole [.Tuple [.Name x px, .Name z py, .Name w pz] kt pt] (.Tuple [a, b, c] k2 pt2) pos.line X.env = pure false := by rfl) :
    MS X (.Assign [.Tuple [.Name x px, .Name z py, .Name w pz] kt pt] (.Tuple [a, b, c] k2 pt2) pos) (sParX [i, j, l] mr) := by
  refine ⟨⟨fun pins s σ H E I h => (ps_par3 hc hN hi hj hl hij hil hjl hx hy hz ha.run hw hs).run pins s σ H E I ?_⟩, sParX_mono ha⟩
  obtain ⟨y, dr, F, env, re, hm⟩ := h
  refine ⟨y, dr, F, env, re, ha.mono _ _ _ (fun its hd vs H' F' r1 s1 w => ?_) (ha.len _ _ hm)⟩
  have h1 := xall_len w
  have h2 := xall_put r1 w (is := [i, j, l]) hd.1.symm
  have hl : vs.length = 3 := by rw [← h1, hd.1]; rfl
  match vs, hl with
  | [v1, v2, v3], _ => exact ⟨v1, v2, v3, rfl, hd.2 dr F' _ H' h2 s1.f⟩
/-- the targets are names, however many, the tuple is built -/
inductive NTs (X : Cx) : List Expr → List Nat → Prop
  | nil : NTs X [] []
  | cons {x : Str} {p : Pos} {i : Nat} {es : List Expr} {is : List Nat} : X.N[i]? = some x → Loc X.env.scope x → (X.fn x = true ∨ X.env.scope.names.lookup x = some .local) →
      (assignEach (.Name x p :: es) X.env).map (·.2) = assign (.Name x p) X.env :: (assignEach es X.env).map (·.2) → NTs X es is → NTs X (.Name x p :: es) (i :: is)
theorem nt_run (hN : X.N.Nodup) : ∀ {es : List Expr} {is : List Nat}, NTs X es is → PGs X es fun vs σ H Q => vs.length = is.length ∧ Q (putV' σ is vs) H
  | _, _, .nil => ⟨fun pins s σ H vs us Q I r h => pgs_nil.run pins s σ H vs us Q I r (by
      have h1 : vs = [] := List.eq_nil_of_length_eq_zero h.1
      subst h1
      exact ⟨rfl, h.2⟩)⟩
  | _, _, .cons h1 h2 h3 h4 t => ⟨fun pins s σ H vs us Q I r h => (pgs_cons (pg_name hN h1 h2 h3) (nt_run hN t) h4).run pins s σ H vs us Q I r (by
      cases vs with
      | nil => simp at h
      | cons v vs => exact ⟨v, vs, rfl, by simpa using h.1, h.2⟩)⟩
theorem XAll.grown {K : Fg} {y : Cy} {dr : Option Addr} {F H : Hp} {env : En} {σ : L2.St} {q : Addr} {o : HO} (hq : H q = none) : ∀ {ss : List Sl} {vs : List V}, XAll K y dr F H env σ ss vs → XAll K y dr F (upd H q o) env σ ss vs
  | _, _, .nil => .nil
  | _, _, .cons (s := s) (v := v) a r t => .cons (by
      cases s with
      | v d => exact a
      | l xs => obtain ⟨p, ws, h1, h2, h3⟩ := a; exact ⟨p, ws, h1, by rw [upd_ne (ne_of_none h2 hq)]; exact h2, h3⟩
      | k xs => obtain ⟨p, ws, h1, h2, h3⟩ := a; exact ⟨p, ws, h1, by rw [upd_ne (ne_of_none h2 hq)]; exact h2, h3⟩
      | _ => exact a) r (XAll.grown hq t)
theorem ms_tupX {tgs : List Expr} {is : List Nat} {kt k2 : Nat} {pt pt2 : Pos} {n : Nat} (hc : X.calm = true) (hN : X.N.Nodup) (ht : NTs X tgs is) (ha : MX X es mr) (hn : (assignEach tgs X.env).length = n := by rfl) (hst : (assignEach tgs X.env).findIdx? (·.1) = none := by rfl) (hl : is.length = n := by rfl) (hl2 : is.length ≤ 1000 := by decide) (hl3 : is.length = es.length := by rfl)
    (hs : swapsWithSole [.Tuple tgs kt pt] (.Tuple es k2 pt2) pos.line X.env = pure false := by rfl) (hw : swappedStores [.Tuple tgs kt pt] (.Tuple es k2 pt2) X.env = pure none := by rfl)
    (h1 : (assignEach [.Tuple tgs kt pt] X.env).map (·.2) = [assign (.Tuple tgs kt pt) X.env] := by rfl) : MS X (.Assign [.Tuple tgs kt pt] (.Tuple es k2 pt2) pos) (sParX is mr) := by
  refine ⟨⟨fun pins s σ H E I h => (ps_asg (pe_tup ha.run) (pg_tup hc (nt_run hN ht) hn hst) hs hw h1).run pins s σ H E I ?_⟩, sParX_mono ha⟩
  obtain ⟨y, dr, F, env, re, hm⟩ := h
  refine ⟨y, dr, F, env, re, ha.mono _ _ _ (fun its hd vs H' F' r1 s1 w => ?_) (ha.len _ _ hm)⟩
  have e1 := xall_len w
  have hd1 : is.length = its.length := hl3.trans hd.1.symm
  refine ⟨by rw [← e1, ← hd1, sizeLine_eq]; omega, fun q hq => ?_⟩
  have r2 := r1.grown (o := .tup vs) hq
  exact ⟨q, vs, rfl, .inl (.inl upd_same), by rw [← e1, ← hd1]; exact hl, by rw [← e1]; exact hd1.symm, hd.2 dr F' _ _ (xall_put r2 (w.grown hq) hd1) s1.f⟩
end
end Mi

namespace Mi
open PySem PySem.Spec L2
theorem hu65 {A : Around} {k : Nat} (hr : Room k A) : A.units + 65 < cLine := by have := hr.un; omega
/-- a constant of the top's -/
def Con (K : Fg) (mg : Str → Option Value) (x : Str) (d : D) : Prop := ∃ (v : V) (u : Value), mg x = some u ∧ RelV v u ∧ ∀ F, Rv K F d v
section
variable {X : Cx} {b : Bool} {pos : Pos}
theorem me_glob {x : Str} {d : D} (h : Con X.G X.mg x d) (hg : Gl X x := by rfl) (hd : (x == ("__debug__" : Str)) = false := by decide) : ME X b (.Name x pos) (sC d) := by
  obtain ⟨v, u, h1, h2, h3⟩ := h
  exact me_con (pe_glob hg h1 h2 hd) h3
end
section
variable {P : Program} {w : World} {K : Fg} {mg : Str → Option Value} {base : Heap}
theorem con_int {h : Heap} {x : Str} {i : Int} {t : Tok} (X : K.K.In h) (G : h.Ns mainGlobals mg) (a : PySem.W.nsIn K mainGlobals x = some (some (.int i t))) : Con K mg x (.int i) := ⟨.int i, .int i t, PySem.W.mg_of X G a, ⟨t, rfl⟩, fun _ => .int i⟩
theorem con_str {h : Heap} {x : Str} {i : Str} {t : Tok} (X : K.K.In h) (G : h.Ns mainGlobals mg) (hl : i.length ≤ sizeLine) (a : PySem.W.nsIn K mainGlobals x = some (some (.str i t))) : Con K mg x (.str i) := ⟨.str i, .str i t, PySem.W.mg_of X G a, ⟨t, rfl⟩, fun _ => .str i hl⟩
theorem law_ok2 {K : PySem.W.Frag} {x qual : Str} {st : Stmt} {f : Addr} {fd : FuncData} {N : List Str} {k i : Nat} {m : SS} (F : Fun K x qual st f fd) (S : FnScope N ["script"] (defScope st)) (hN : 0 < N.length)
    (hbody : ∀ (cdv : Value) (A : Around) (outer : List Env) (s : Shared) (H : Hp) (E : XK), Room k (A.deeper (PyProof.Rows.envOfC qual (defScope st) s.heap.objs.size f cdv)) →
      PSs (cxOf CX0 P w K mg base N qual (defScope st) f cdv A outer s H E).nox (defBody st) (tSeq (tAsg (tDraw K) (gName i)) (lS ⟨K, P, w⟩ m)) ∧ ∀ (a c : Ks) env, KLe a c → m a env → m c env)
    (hm : m kL (env0 N.length i)) : FnOk P w K mg base CX0 (k + 1) f fd ["script"] (spLaw K) := by
  by_cases mono : ∀ (a c : Ks) env, KLe a c → m a env → m c env
  · exact law_ok F S hN (fun cdv A outer s H E hr => (hbody cdv A outer s H E hr).1) hm mono
  · refine F.ok S (fun vs H Q E h => ?_) (fun cdv A outer s H vs Q E hr h => ?_)
    · obtain ⟨a, ns, rfl, _⟩ := h
      rfl
    · exact absurd (hbody cdv A outer s H E hr).2 mono
theorem pss_and {X : Cx} {rest : List Stmt} {m : SS} {e : Expr} {te : TE} {x : Str} {i : Nat} {pos pos' : Pos} (h : PE X e te) (hN : X.N.Nodup) (hi : X.N[i]? = some x) (hx : Loc X.env.scope x) (hs : swapsWith e (some (.Name x pos')) pos.line X.env = pure false)
    (hf : X.fn x = true ∨ X.env.scope.names.lookup x = some .local) (M : MSs X rest m) : PSs X (.Assign [.Name x pos'] e pos :: rest) (tSeq (tAsg te (gName i)) (lS X.G m)) ∧ ∀ (a c : Ks) env, KLe a c → m a env → m c env :=
  ⟨pss_cons (ps_set hN hi hx h hs hf) M.run, M.mono⟩
/-! ### _law_same of two equal values -/
def pl : Nat → D → Bool
  | 0, _ => false
  | n + 1, .list xs => decide (xs.length ≤ 16777216) && xs.all (pl n)
  | n + 1, .tuple xs => decide (xs.length ≤ 16777216) && xs.all (pl n)
  | _ + 1, .dict _ => false
  | _ + 1, _ => true
def smS (n : Nat) : Sm := fun args Q => ∃ a, args = [.v a, .v a] ∧ pl n a = true ∧ Q (.bool true)
end
end Mi

namespace Mi
open PySem PySem.Spec L2
/-! ### reading a meaning -/
def oK (s : Sl) (P : List D → Prop) : Prop := match s with
  | .l xs => P xs
  | _ => False
@[simp] theorem u_sC {d : D} {v0_ : En} {Q : D → Prop} : sC d v0_ Q = (Q d) := rfl
@[simp] theorem u_sOp {f : D → D → Option D} {a c : SE} {env : En} {Q : D → Prop} : sOp f a c env Q = (a env fun x => c env fun z => ob (f x z) Q) := rfl
@[simp] theorem u_sUn {f : D → Option D} {a : SE} {env : En} {Q : D → Prop} : sUn f a env Q = (a env fun x => ob (f x) Q) := rfl
@[simp] theorem u_sSeq {a c : SS} {K : Ks} {env : En} : sSeq a c K env = (a ⟨fun e => c K e, K.rt, K.bk, K.ct⟩ env) := rfl
@[simp] theorem u_sSkip  {K : Ks} {env : En} : sSkip K env = (K.nx env) := rfl
@[simp] theorem u_sBrk  {K : Ks} {env : En} : sBrk K env = (K.bk env) := rfl
@[simp] theorem u_sCnt  {K : Ks} {env : En} : sCnt K env = (K.ct env) := rfl
@[simp] theorem u_sDrop {m : SE} {K : Ks} {env : En} : sDrop m K env = (m env fun _ => K.nx env) := rfl
@[simp] theorem u_sRet {m : SE} {K : Ks} {env : En} : sRet m K env = (m env K.rt) := rfl
@[simp] theorem u_sRetN  {K : Ks} {v1_ : En} : sRetN K v1_ = (K.rt .none) := rfl
@[simp] theorem u_sIfS {t : SB} {m m' : SS} {K : Ks} {env : En} : sIfS t m m' K env = (t env fun k => if k = true then m K env else m' K env) := rfl
@[simp] theorem u_sFz {i : Nat} {m : SS} {K : Ks} {env : En} : sFz i m K env = (m K (fz i env)) := rfl
@[simp] theorem u_sAsg {i : Nat} {m : SE} {K : Ks} {env : En} : sAsg i m K env = (m env fun d => K.nx (env.set i (.v d))) := rfl
@[simp] theorem u_sOwn {i : Nat} {m : SL} {K : Ks} {env : En} : sOwn i m K env = (m env fun xs => K.nx (env.set i (.l xs))) := rfl
@[simp] theorem u_gN {i : Nat} {d : D} {env : En} {Q : En → Prop} : gN i d env Q = (Q (env.set i (.v d))) := rfl
@[simp] theorem u_sAsgG {m : SE} {g : SG} {K : Ks} {env : En} : sAsgG m g K env = (m env fun d => g d env K.nx) := rfl
@[simp] theorem u_sFor {src : SI} {g : SG} {body : SS} {K : Ks} {env : En} : sFor src g body K env = (src env fun ds => forGo g body K ds env) := rfl
@[simp] theorem u_sLc {src : SI} {own : List Nat} {g : SG} {t : SB} {el : SE} {env : En} {Q : List D → Prop} : sLc src own g t el env Q = (src env fun ds => lcGo g t el (wipeE env own) ds Q) := rfl
@[simp] theorem u_rNil  {v0_ : En} {Q : List Sl → Prop} : rNil v0_ Q = (Q []) := rfl
@[simp] theorem u_rCons {m : SE} {r : SR} {env : En} {Q : List Sl → Prop} : rCons m r env Q = (m env fun d => r env fun ds => Q (.v d :: ds)) := rfl
@[simp] theorem u_sCall {n : Nat} {sm : Sm} {mr : SR} {env : En} {Q : D → Prop} : sCall n sm mr env Q = (mr env fun args => up sm args Q) := rfl
@[simp] theorem u_xNil  {v0_ : En} {Q : List Sl → Prop} : xNil v0_ Q = (Q []) := rfl
@[simp] theorem u_xV {m : SE} {r : SX} {env : En} {Q : List Sl → Prop} : xV m r env Q = (m env fun d => r env fun its => Q (.v d :: its)) := rfl
@[simp] theorem u_xL {m : SL} {r : SX} {env : En} {Q : List Sl → Prop} : xL m r env Q = (m env fun xs => r env fun its => Q (.l xs :: its)) := rfl
@[simp] theorem u_sParX {is : List Nat} {m : SX} {K : Ks} {env : En} : sParX is m K env = (m env fun its => K.nx (putX env is its)) := rfl
@[simp] theorem u_sAnd {ta tc : SB} {env : En} {Q : Bool → Prop} : sAnd ta tc env Q = (ta env fun k => if k = true then tc env Q else Q false) := rfl
@[simp] theorem u_sOr {ta tc : SB} {env : En} {Q : Bool → Prop} : sOr ta tc env Q = (ta env fun k => if k = true then Q true else tc env Q) := rfl
@[simp] theorem u_sNot {ta : SB} {env : En} {Q : Bool → Prop} : sNot ta env Q = (ta env fun k => Q (!k)) := rfl
@[simp] theorem u_sIf {t : SB} {ma mc : SE} {env : En} {Q : D → Prop} : sIf t ma mc env Q = (t env fun k => if k = true then ma env Q else mc env Q) := rfl
@[simp] theorem u_sNil  {v0_ : En} {Q : List D → Prop} : sNil v0_ Q = (Q []) := rfl
@[simp] theorem u_sCons {m : SE} {r : SA} {env : En} {Q : List D → Prop} : sCons m r env Q = (m env fun d => r env fun ds => Q (d :: ds)) := rfl
@[simp] theorem u_sTup {m : SA} {env : En} {Q : D → Prop} : sTup m env Q = (m env fun ds => Q (.tuple ds)) := rfl
@[simp] theorem u_sFr {m : SL} {env : En} {Q : D → Prop} : sFr m env Q = (m env fun xs => Q (.list xs)) := rfl
@[simp] theorem u_sItems {m : SA} {env : En} {Q : List D → Prop} : sItems m env Q = (m env Q) := rfl
@[simp] theorem u_sNo  {v0_ : En} {Q : Option Int → Prop} : sNo v0_ Q = (Q none) := rfl
@[simp] theorem u_iVal {m : SE} {env : En} {Q : List D → Prop} : iVal m env Q = (m env fun d => obL (itemsOf d) Q) := rfl
@[simp] theorem u_iEn {k : Int} {m : SE} {env : En} {Q : List D → Prop} : iEn k m env Q = (m env fun d => obL (itemsOf d) fun xs => Q (enumL k xs)) := rfl
@[simp] theorem u_iZp {m m' : SE} {env : En} {Q : List D → Prop} : iZp m m' env Q = (m env fun d => m' env fun d' => obL (itemsOf d) fun xs => obL (itemsOf d') fun zs => Q (zipL xs zs)) := rfl
@[simp] theorem u_sApp {i : Nat} {m : SE} {K : Ks} {env : En} : sApp i m K env = (ownL env i fun xs => m env fun d => xs.length < 16777216 ∧ K.nx (env.set i (.l (xs ++ [d])))) := rfl
@[simp] theorem u_sAndV {ma mc : SE} {env : En} {Q : D → Prop} : sAndV ma mc env Q = (ma env fun x => obB (tru x) fun k => if k = true then mc env Q else Q x) := rfl
@[simp] theorem u_sOrV {ma mc : SE} {env : En} {Q : D → Prop} : sOrV ma mc env Q = (ma env fun x => obB (tru x) fun k => if k = true then Q x else mc env Q) := rfl
@[simp] theorem u_sNotV {ma : SE} {env : En} {Q : D → Prop} : sNotV ma env Q = (ma env fun x => obB (tru x) fun k => Q (.bool (!k))) := rfl
@[simp] theorem u_sTru {m : SE} {env : En} {Q : Bool → Prop} : sTru m env Q = (m env fun d => obB (tru d) Q) := rfl
@[simp] theorem u_sSl {m : SE} {l h : SO} {env : En} {Q : D → Prop} : sSl m l h env Q = (m env fun x => l env fun lo => h env fun hi => ob (slD x lo hi) Q) := rfl
@[simp] theorem u_sSeqq {m : SE} {env : En} {Q : List D → Prop} : sSeq' m env Q = (m env fun d => obL (seqOf d) Q) := rfl
@[simp] theorem u_sSort {m : SE} {env : En} {Q : List D → Prop} : sSort m env Q = (m env fun d => obL (seqOf d) fun xs => SrtOk xs ∧ Q (srt xs)) := rfl
@[simp] theorem u_ownL {env : En} {i : Nat} {P : List D → Prop} : ownL env i P = oK (gv env i) P := rfl
@[simp] theorem oK_l {xs : List D} {P : List D → Prop} : oK (.l xs) P = P xs := rfl
@[simp] theorem putX_c {env : En} {i : Nat} {is : List Nat} {s : Sl} {ss : List Sl} : putX env (i :: is) (s :: ss) = putX (env.set i s) is ss := rfl
@[simp] theorem putX_n {env : En} : putX env [] [] = env := rfl
@[simp] theorem wipeE_n {env : En} : wipeE env [] = env := rfl
@[simp] theorem wipeE_c {env : En} {v : Nat} {vs : List Nat} : wipeE env (v :: vs) = (wipeE env vs).set v .un := rfl
@[simp] theorem u_fz {i : Nat} {env : En} : fz i env = match env[i]? with | some s => env.set i (fzS s) | none => env := rfl
@[simp] theorem fzS_l {xs : List D} : fzS (.l xs) = .v (.list xs) := rfl
@[simp] theorem fzS_v {d : D} : fzS (.v d) = .v d := rfl
@[simp] theorem fzS_k {kvs : List (Key × D)} : fzS (.k kvs) = .v (.dict (kdD kvs)) := rfl
@[simp] theorem fzS_t {kvs : List (List Key × D)} : fzS (.t kvs) = .v (.dict (ktM kvs)) := rfl
@[simp] theorem u_tYes {env : En} {R : Bool → Prop} : tYes' env R = R true := rfl
@[simp] theorem kL_rt {d : D} : kL.rt d = (d = .bool true) := rfl
@[simp] theorem kL_nx {e : En} : kL.nx e = False := rfl
def chK (d : D) (P : Prop) (Q : D → Prop) : Prop := match d with
  | .bool true => P
  | .bool false => Q (.bool false)
  | _ => False
@[simp] theorem chK_t {P : Prop} {Q : D → Prop} : chK (.bool true) P Q = P := rfl
@[simp] theorem chK_f {P : Prop} {Q : D → Prop} : chK (.bool false) P Q = Q (.bool false) := rfl
theorem chK_b {k : Bool} {P : Prop} {Q : D → Prop} : chK (.bool k) P Q = if k = true then P else Q (.bool false) := by cases k <;> simp
@[simp] theorem chK_d {p : Prop} [Decidable p] {P : Prop} {Q : D → Prop} : chK (.bool (decide p)) P Q = if p then P else Q (.bool false) := by rw [chK_b]; by_cases h : p <;> simp [h]
@[simp] theorem u_sChain {f g : D → D → Option D} {ma mc me : SE} {env : En} {Q : D → Prop} : sChain f g ma mc me env Q = (ma env fun x => mc env fun z => ob (f x z) fun t => chK t (me env fun w => ob (g z w) Q) Q) := rfl
def svK (s : Sl) (Q : D → Prop) : Prop := match s with
  | .v d => Q d
  | _ => False
def sbK (s : Sl) (Q : D → Prop) : Prop := match s with
  | .v d => Q d
  | .l xs => Q (.list xs)
  | .k kvs => Q (.dict (kdD kvs))
  | .t kvs => Q (.dict (ktM kvs))
  | _ => False
section
variable {i j : Int} {x z : Str} {c k : Bool} {xs ys : List D} {d e : D} {env : En} {Q : D → Prop} {R : Bool → Prop} {P : List D → Prop} {n : Nat}
@[simp] theorem sVar_eq : sVar n env Q = svK (gv env n) Q := rfl
@[simp] theorem svK_v : svK (.v d) Q = Q d := rfl
@[simp] theorem sBor_eq : sBor n env Q = sbK (gv env n) Q := rfl
@[simp] theorem sbK_v : sbK (.v d) Q = Q d := rfl
@[simp] theorem sbK_l : sbK (.l xs) Q = Q (.list xs) := rfl
@[simp] theorem sbK_k {kvs} : sbK (.k kvs) Q = Q (.dict (kdD kvs)) := rfl
@[simp] theorem sbK_t {kvs} : sbK (.t kvs) Q = Q (.dict (ktM kvs)) := rfl
@[simp] theorem ob_s : ob (some d) Q = Q d := rfl
@[simp] theorem ob_n : ob none Q = False := rfl
@[simp] theorem obB_s : obB (some c) R = R c := rfl
@[simp] theorem obL_s : obL (some xs) P = P xs := rfl
@[simp] theorem add_i : addD (.int i) (.int j) = some (.int (i + j)) := rfl
@[simp] theorem sub_i : subD (.int i) (.int j) = some (.int (i - j)) := rfl
theorem fdiv_i (h : 0 < j ∧ j < 1073741824) : fdivD (.int i) (.int j) = some (.int (i / j)) := cIf_pos h
theorem mod_i (h : 0 < j) : modD (.int i) (.int j) = some (.int (i % j)) := by unfold modD; simp [h]
theorem mul_i (h : small i = true ∨ small j = true) : mulD (.int i) (.int j) = some (.int (i * j)) := by unfold mulD; simp [h]
@[simp] theorem neg_i : negD (.int i) = some (.int (-i)) := rfl
@[simp] theorem lt_i : ltD (.int i) (.int j) = some (.bool (decide (i < j))) := rfl
@[simp] theorem le_i : leD (.int i) (.int j) = some (.bool (decide (i ≤ j))) := rfl
@[simp] theorem gt_i : gtD (.int i) (.int j) = some (.bool (decide (j < i))) := rfl
@[simp] theorem ge_i : geD (.int i) (.int j) = some (.bool (decide (j ≤ i))) := rfl
@[simp] theorem eq_i : eqD (.int i) (.int j) = some (.bool (decide (i = j))) := rfl
@[simp] theorem ne_i : neD (.int i) (.int j) = some (.bool (!decide (i = j))) := rfl
@[simp] theorem eq_s : eqD (.str x) (.str z) = some (.bool (decide (x = z))) := rfl
@[simp] theorem ne_s : neD (.str x) (.str z) = some (.bool (!decide (x = z))) := rfl
@[simp] theorem eq_b : eqD (.bool c) (.bool k) = some (.bool (decide (c = k))) := rfl
@[simp] theorem ne_b : neD (.bool c) (.bool k) = some (.bool (!decide (c = k))) := rfl
@[simp] theorem is_n : isD d .none = some (.bool (isN d)) := rfl
@[simp] theorem isn_n : isnD d .none = some (.bool (!isN d)) := rfl
@[simp] theorem isN_n : isN .none = true := rfl
@[simp] theorem isN_b : isN (.bool c) = false := rfl
@[simp] theorem isN_i : isN (.int i) = false := rfl
@[simp] theorem isN_s : isN (.str x) = false := rfl
@[simp] theorem isN_l : isN (.list xs) = false := rfl
@[simp] theorem isN_t : isN (.tuple xs) = false := rfl
@[simp] theorem tru_b : tru (.bool c) = some c := rfl
@[simp] theorem tru_i : tru (.int i) = some (i != 0) := rfl
@[simp] theorem tru_l : tru (.list xs) = some (!xs.isEmpty) := rfl
@[simp] theorem tru_t : tru (.tuple xs) = some (!xs.isEmpty) := rfl
@[simp] theorem tru_n : tru .none = some false := rfl
@[simp] theorem sTB_eq {m : SE} : sTB m env R = m env fun d => match d with | .bool c => R c | _ => False := rfl
@[simp] theorem sPart_eq {m : SE} {S : Option Int → Prop} : sPart m env S = m env fun d => match d with | .int i => S (some i) | _ => False := rfl
@[simp] theorem len_l : lenD (.list xs) = some (.int xs.length) := rfl
@[simp] theorem len_t : lenD (.tuple xs) = some (.int xs.length) := rfl
@[simp] theorem len_s : lenD (.str x) = some (.int x.length) := rfl
@[simp] theorem abs_i : absD (.int i) = some (.int (if i < 0 then -i else i)) := rfl
@[simp] theorem int_i : intD (.int i) = some (.int i) := rfl
@[simp] theorem int_b : intD (.bool c) = some (.int (if c then 1 else 0)) := rfl
@[simp] theorem max_i : max2D (.int i) (.int j) = some (.int (max i j)) := rfl
@[simp] theorem min_i : min2D (.int i) (.int j) = some (.int (min i j)) := rfl
@[simp] theorem seq_l : seqOf (.list xs) = some xs := rfl
@[simp] theorem seq_t : seqOf (.tuple xs) = some xs := rfl
@[simp] theorem items_l : itemsOf (.list xs) = some xs := rfl
@[simp] theorem items_t : itemsOf (.tuple xs) = some xs := rfl
@[simp] theorem tup_l : tupD (.list xs) = some (.tuple xs) := rfl
@[simp] theorem tup_t : tupD (.tuple xs) = some (.tuple xs) := rfl
@[simp] theorem slD_l {a b : Option Int} : slD (.list xs) a b = some (.list (cut xs a b)) := rfl
@[simp] theorem slD_t {a b : Option Int} : slD (.tuple xs) a b = some (.tuple (cut xs a b)) := rfl
@[simp] theorem gNo_nil {S : En → Prop} : gNo [] env S = S env := rfl
@[simp] theorem gCo_cons {g : SG} {gs : SGs} {S : En → Prop} : gCo g gs (d :: xs) env S = g d env fun e => gs xs e S := rfl
@[simp] theorem gT_eq {gs : SGs} {S : En → Prop} : gT n gs (.tuple xs) env S = gs xs env S := rfl
@[simp] theorem iR1_eq {m : SE} : iR1 m env P = m env fun d => match d with | .int n => (n ≤ 16777216 ∧ -4611686018427387904 ≤ n) ∧ P (dInts (rng 0 n)) | _ => False := rfl
@[simp] theorem iR2_eq {m m' : SE} : iR2 m m' env P = m env fun d => m' env fun d' => match d, d' with | .int lo, .int hi => (-4611686018427387904 ≤ lo ∧ lo < 4611686018427387904 ∧ -4611686018427387904 ≤ hi ∧ hi < 4611686018427387904 ∧ hi - lo ≤ 16777216) ∧ P (dInts (rng lo hi)) | _, _ => False := rfl
@[simp] theorem sPar_eq {a b : Nat} {m : SA} {K : Ks} : sPar a b m K env = m env fun ds => match ds with | [d, d'] => K.nx ((env.set a (.v d)).set b (.v d')) | _ => False := rfl
@[simp] theorem sPar3_eq {a b l : Nat} {m : SA} {K : Ks} : sPar3 a b l m K env = m env fun ds => match ds with | [d, d', d''] => K.nx (((env.set a (.v d)).set b (.v d')).set l (.v d'')) | _ => False := rfl
@[simp] theorem sNext_eq {a : Nat} {m : SE} : sNext a m env Q = (gv env a = .dr ∧ m env fun d => match d with | .int k => (0 < k ∧ k < 1073741824) ∧ ∀ n : Int, 0 ≤ n → n < k → Q (.int n) | _ => False) := rfl
@[simp] theorem rDr_eq {a : Nat} {r : SR} {S : List Sl → Prop} : rDr a r env S = (gv env a = .dr ∧ r env fun ds => S (.dr :: ds)) := rfl
@[simp] theorem isK_n {t : Ty} : isK t .none = some false := rfl
@[simp] theorem is1_n {t : Ty} : is1D t .none = some (.bool false) := rfl
@[simp] theorem is1_l {t : Ty} : is1D t (.list xs) = some (.bool (match t with | .list => true | _ => false)) := rfl
@[simp] theorem is1_t {t : Ty} : is1D t (.tuple xs) = some (.bool (match t with | .tuple => true | _ => false)) := rfl
@[simp] theorem is1_i {t : Ty} : is1D t (.int i) = some (.bool (match t with | .int => true | _ => false)) := rfl
@[simp] theorem is1_s {t : Ty} : is1D t (.str x) = some (.bool (match t with | .str => true | _ => false)) := rfl
@[simp] theorem is1_b {t : Ty} : is1D t (.bool c) = some (.bool (match t with | .bool => true | .int => true | _ => false)) := rfl
@[simp] theorem is2_lt_l : is2D .list .tuple (.list xs) = some (.bool true) := rfl
@[simp] theorem is2_lt_t : is2D .list .tuple (.tuple xs) = some (.bool true) := rfl
@[simp] theorem is2_lt_n : is2D .list .tuple .none = some (.bool false) := rfl
@[simp] theorem is2_lt_i : is2D .list .tuple (.int i) = some (.bool false) := rfl
@[simp] theorem is2_lt_b : is2D .list .tuple (.bool c) = some (.bool false) := rfl
@[simp] theorem is2_lt_s : is2D .list .tuple (.str x) = some (.bool false) := rfl
@[simp] theorem dInts_len {ns : List Int} : (dInts ns).length = ns.length := by unfold dInts; simp
end
@[simp] theorem gv_0 {a : Sl} {l : En} : gv (a :: l) 0 = a := rfl
@[simp] theorem gv_s {a : Sl} {l : En} {n : Nat} : gv (a :: l) (n + 1) = gv l n := rfl
@[simp] theorem at0 {α : Type} {a : α} {l : List α} : atI (a :: l) 0 = some a := by
  have h : ((0 : Nat) : Int) = 0 := rfl
  rw [← h]; exact atI_nat rfl
@[simp] theorem at1 {α : Type} {a b : α} {l : List α} : atI (a :: b :: l) 1 = some b := by
  have h : ((1 : Nat) : Int) = 1 := rfl
  rw [← h]; exact atI_nat rfl
@[simp] theorem at2 {α : Type} {a b c : α} {l : List α} : atI (a :: b :: c :: l) 2 = some c := by
  have h : ((2 : Nat) : Int) = 2 := rfl
  rw [← h]; exact atI_nat rfl
@[simp] theorem at3 {α : Type} {a b c d : α} {l : List α} : atI (a :: b :: c :: d :: l) 3 = some d := by
  have h : ((3 : Nat) : Int) = 3 := rfl
  rw [← h]; exact atI_nat rfl
@[simp] theorem ixD_list {xs : List D} {i : Int} : ixD (.list xs) (.int i) = atI xs i := rfl
@[simp] theorem ixD_tup {xs : List D} {i : Int} : ixD (.tuple xs) (.int i) = atI xs i := rfl
theorem at_some {α : Type} {xs : List α} {i : Int} {j : Nat} {d : α} (h : i = (j : Int)) (e : xs[j]? = some d) : atI xs i = some d := by
  subst h; exact atI_nat e
theorem at_lt {α : Type} {xs : List α} {i : Nat} (h : i < xs.length) : atI xs (i : Int) = some xs[i] := atI_nat (by simp [h])
/-! loops -/
/-- a loop: E i holds of the names ahead of the i-th turn; R is what follows a turn -/
theorem for_idx {g : SG} {body : SS} {K : Ks} {xs : List D} {E : Nat → En → Prop} (hs : ∀ i d env (R : En → Prop), xs[i]? = some d → E i env → (∀ e, E (i + 1) e → R e) → g d env fun e1 => body ⟨R, K.rt, K.nx, R⟩ e1) (hd : ∀ e, E xs.length e → K.nx e) {env : En} (h0 : E 0 env) : forGo g body K xs env := by
  have : ∀ (ys : List D) (i : Nat) (env : En), xs.drop i = ys → i ≤ xs.length → E i env → forGo g body K ys env := by
    intro ys
    induction ys with
    | nil =>
      intro i env e hl h
      have : xs.length ≤ i := List.drop_eq_nil_iff.mp e
      have e2 : i = xs.length := by omega
      subst e2
      exact hd _ h
    | cons d ys ih =>
      intro i env e hl h
      have hi : i < xs.length := by
        refine Decidable.byContradiction fun z => ?_
        rw [List.drop_eq_nil_iff.mpr (by omega)] at e
        cases e
      rw [List.drop_eq_getElem_cons hi] at e
      injection e with e1 e2
      exact hs i d env (fun e => forGo g body K ys e) (by rw [← e1]; simp [hi]) h fun e he => ih (i + 1) e e2 hi he
  exact this xs 0 env (by simp) (Nat.zero_le _) h0
theorem rng_get {lo hi : Int} {i : Nat} {d : D} (h : (dInts (rng lo hi))[i]? = some d) : d = .int (lo + (i : Int)) ∧ lo + (i : Int) < hi := by
  have hi := (List.getElem?_eq_some_iff.mp h).1
  rw [rng_len] at hi
  unfold dInts rng at h
  rw [List.getElem?_map, List.getElem?_map, List.getElem?_range hi] at h
  simp at h
  exact ⟨h.symm, by omega⟩
/-- .. over a range -/
theorem for_rng {g : SG} {body : SS} {K : Ks} {lo hi : Int} {E : Int → En → Prop} (hs : ∀ (i : Int) env (R : En → Prop), lo ≤ i → i < hi → E i env → (∀ e, E (i + 1) e → R e) → g (.int i) env fun e1 => body ⟨R, K.rt, K.nx, R⟩ e1) (hd : ∀ e, E (max lo hi) e → K.nx e) {env : En} (h0 : E lo env) : forGo g body K (dInts (rng lo hi)) env := by
  refine for_idx (E := fun i e => E (lo + (i : Int)) e) (fun i d env R h he hr => ?_) (fun e he => hd e ?_) (by simpa using h0)
  · obtain ⟨rfl, h2⟩ := rng_get h
    exact hs _ env R (by omega) h2 he fun e h => hr e (by rw [show lo + ((i + 1 : Nat) : Int) = lo + (i : Int) + 1 by omega]; exact h)
  · rw [rng_len] at he
    rw [show max lo hi = lo + ((hi - lo).toNat : Int) by omega]
    exact he
/-- .. over a row of typed items: E of the items done -/
theorem for_pre {α : Type} {enc : α → D} {g : SG} {body : SS} {K : Ks} {xs : List α} {E : List α → En → Prop} (hs : ∀ pre a post env (R : En → Prop), xs = pre ++ a :: post → E pre env → (∀ e, E (pre ++ [a]) e → R e) → g (enc a) env fun e1 => body ⟨R, K.rt, K.nx, R⟩ e1) (hd : ∀ e, E xs e → K.nx e) {env : En} (h0 : E [] env) : forGo g body K (xs.map enc) env := by
  refine for_idx (E := fun i e => E (xs.take i) e) (fun i d env R h he hr => ?_) (fun e he => hd e (by simpa using he)) (by simpa using h0)
  rw [List.getElem?_map] at h
  cases q : xs[i]? with
  | none => rw [q] at h; cases h
  | some a =>
    rw [q] at h; cases h
    have hi := (List.getElem?_eq_some_iff.mp q).1
    refine hs (xs.take i) a (xs.drop (i + 1)) env R ?_ he fun e h => hr e ?_
    · rw [← (List.getElem?_eq_some_iff.mp q).2, ← List.drop_eq_getElem_cons hi, List.take_append_drop]
    · rw [List.take_succ, q]
      exact h
@[simp] theorem sizeLine_eq' : sizeLine = 16777216 := sizeLine_eq
/-- .. over a row of typed items, the state typed: a fold -/
theorem for_fold {α S : Type} {enc : α → D} {E : S → En → Prop} {g : SG} {body : SS} {K : Ks} {step : S → α → S} : ∀ (xs : List α) (s : S) (env : En)
    (hs : ∀ a ∈ xs, ∀ s env (R : En → Prop), E s env → (∀ e, E (step s a) e → R e) → g (enc a) env fun e1 => body ⟨R, K.rt, K.nx, R⟩ e1), E s env → (∀ e, E (xs.foldl step s) e → K.nx e) → forGo g body K (xs.map enc) env
  | [], s, env, _, h, hd => hd env h
  | a :: xs, s, env, hs, h, hd => hs a (by simp) s env (fun e => forGo g body K (xs.map enc) e) h fun e he => for_fold xs (step s a) e (fun b hb => hs b (by simp [hb])) he hd
/-- a comprehension: each item of the row kept or not, what is made of it -/
theorem lc_map {α : Type} {enc : α → D} {g : SG} {t : SB} {el : SE} {env : En} {p : α → Bool} {f : α → D} : ∀ (xs : List α) (Q : List D → Prop),
    (∀ a ∈ xs, ∀ (R : D → Prop) (S : Prop), (p a = true → R (f a)) → (p a = false → S) → g (enc a) env fun e1 => t e1 fun k => if k = true then el e1 R else S) → Q ((xs.filter p).map f) → lcGo g t el env (xs.map enc) Q
  | [], Q, _, h => h
  | a :: xs, Q, hs, h => by
    refine hs a (by simp) _ _ (fun hp => ?_) (fun hp => ?_)
    · refine lc_map xs _ (fun b hb => hs b (by simp [hb])) ?_
      rw [List.filter_cons_of_pos hp] at h
      exact h
    · refine lc_map xs _ (fun b hb => hs b (by simp [hb])) ?_
      rw [List.filter_cons_of_neg (by simp [hp])] at h
      exact h
/-- .. without an if -/
theorem lc_all {α : Type} {enc : α → D} {g : SG} {el : SE} {env : En} {f : α → D} : ∀ (xs : List α) (Q : List D → Prop),
    (∀ a ∈ xs, ∀ (R : D → Prop), R (f a) → g (enc a) env fun e1 => el e1 R) → Q (xs.map f) → lcGo g tYes' el env (xs.map enc) Q
  | [], Q, _, h => h
  | a :: xs, Q, hs, h => by
    have h1 := hs a (by simp) (fun r => lcGo g tYes' el env (xs.map enc) fun rs => Q (r :: rs)) (lc_all xs _ (fun b hb => hs b (by simp [hb])) h)
    exact h1
/-- .. drawn: any row of values of the kind P -/
theorem lc_dem {α β : Type} {enc : α → D} {g : SG} {el : SE} {env : En} {f : β → D} {P : β → Prop} : ∀ (xs : List α) (Q : List D → Prop),
    (∀ a ∈ xs, ∀ (R : D → Prop), (∀ r, P r → R (f r)) → g (enc a) env fun e1 => el e1 R) → (∀ rs : List β, rs.length = xs.length → (∀ r ∈ rs, P r) → Q (rs.map f)) → lcGo g tYes' el env (xs.map enc) Q
  | [], Q, _, h => h [] rfl (by simp)
  | a :: xs, Q, hs, h => by
    have h1 := hs a (by simp) (fun r => lcGo g tYes' el env (xs.map enc) fun rs => Q (r :: rs)) fun r hr => lc_dem xs _ (fun b hb => hs b (by simp [hb])) fun rs hl hrs => h (r :: rs) (by simp [hl]) (by simpa using ⟨hr, hrs⟩)
    exact h1
/-- a while: n turns at most; a turn that goes on leads to I (n - 1) -/
theorem wh_ind {t : SB} {body : SS} {K : Ks} {I : Nat → En → Prop} (hs : ∀ n env, I n env → ∀ R : En → Prop, (∀ e m, n = m + 1 → I m e → R e) → t env fun k => if k = true then body ⟨R, K.rt, K.nx, R⟩ env else K.nx env) : ∀ n env, I n env → whGo t body K (n + 1) env
  | 0, env, h => hs 0 env h (fun e => whGo t body K 0 e) fun e m hm => nomatch hm
  | n + 1, env, h => hs (n + 1) env h (fun e => whGo t body K (n + 1) e) fun e m hm hi => by
      cases hm
      exact wh_ind hs n e hi
/-! ### _law_same of two equal values -/
def bSame (sm : Sm) : SS := (sSeq (sIfS (sTru (sUn (is2D .list .tuple) (sVar 1))) (sSeq (sIfS (sOr (sTB (sOp neD (sUn (is1D .list) (sVar 1)) (sUn (is1D .list) (sVar 0)))) (sTB (sOp neD (sUn (is1D .tuple) (sVar 1)) (sUn (is1D .tuple) (sVar 0))))) (sRet (sC (.bool false))) sSkip)
    (sSeq (sIfS (sTB (sOp neD (sUn lenD (sVar 0)) (sUn lenD (sVar 1)))) (sRet (sC (.bool false))) sSkip)
    (sRet (sUn allD (sFr (sLc (iR1 (sUn lenD (sVar 1))) [2] (gN 2) tYes' (sCall 2 sm (rCons (sOp ixD (sVar 0) (sVar 2)) (rCons (sOp ixD (sVar 1) (sVar 2)) rNil))))))))) sSkip)
    (sSeq (sIfS (sTB (sOp isD (sVar 1) (sC .none))) (sRet (sOp isD (sVar 0) (sC .none))) sSkip)
    (sSeq (sIfS (sTB (sOp neD (sUn (is1D .bool) (sVar 1)) (sUn (is1D .bool) (sVar 0)))) (sRet (sC (.bool false))) sSkip)
    (sSeq (sIfS (sTru (sUn (is1D .str) (sVar 1))) (sRet (sAndV (sUn (is1D .str) (sVar 0)) (sOp eqD (sVar 0) (sVar 1)))) sSkip)
    (sRet (sAndV (sUn (is1D .int) (sVar 0)) (sOp eqD (sVar 0) (sVar 1))))))))
theorem rng0_map (n : Nat) : dInts (rng 0 (n : Int)) = (List.range n).map fun i : Nat => PyData.int i := by
  unfold dInts rng
  rw [List.map_map]
  simp
theorem same_lc {n : Nat} {xs : List D} {Q : List D → Prop} {w : List D → D} (hw : ∀ i, ixD (w xs) (.int i) = atI xs i) (hx : xs.all (pl n) = true) (h : Q (xs.map fun _ => .bool true)) :
    lcGo (gN 2) tYes' (sCall 2 (smS n) (rCons (sOp ixD (sVar 0) (sVar 2)) (rCons (sOp ixD (sVar 1) (sVar 2)) rNil))) [.v (w xs), .v (w xs), .un] (dInts (rng 0 (xs.length : Int))) Q := by
  rw [rng0_map]
  refine lc_all (f := fun _ => .bool true) _ _ (fun i hi R hR => ?_) ?_
  · have hi : i < xs.length := List.mem_range.mp hi
    simp only [gN, sCall, rCons, rNil, sOp, sVar, List.set, gv_0, gv_s, ob]
    rw [hw, at_lt hi]
    refine up_of ⟨xs[i], rfl, ?_, rfl⟩ hR
    exact List.all_eq_true.mp hx _ (List.getElem_mem hi)
  · have : (List.range xs.length).map (fun _ => PyData.bool true) = xs.map fun _ => .bool true := by
      apply List.ext_getElem
      · simp
      · intros; simp
    rw [this]; exact h
theorem bools_true (xs : List D) : allD (.list (xs.map fun _ => PyData.bool true)) = some (.bool true) := by
  have : xs.map (fun _ => PyData.bool true) = (xs.map fun _ => true).map PyData.bool := by rw [List.map_map]; rfl
  rw [this]
  unfold allD
  show (boolsOf _).map _ = _
  rw [boolsOf_map]
  simp
theorem same_math {n : Nat} {a : D} {Q : D → Prop} (hp : pl (n + 1) a = true) (hq : Q (.bool true)) : semD 3 (bSame (smS n)) [.v a, .v a] Q := by
  cases a with
  | none => exact hq
  | bool c => unfold semD bSame; simp; cases c <;> simp [hq]
  | int i => unfold semD bSame; simp; exact hq
  | str i => unfold semD bSame; simp; exact hq
  | list xs =>
    simp only [pl, Bool.and_eq_true, decide_eq_true_eq] at hp
    unfold semD bSame
    simp
    refine ⟨by have := hp.1; omega, ?_⟩
    refine same_lc (w := fun x => .list x) (fun _ => rfl) hp.2 ?_
    rw [bools_true]; exact hq
  | tuple xs =>
    simp only [pl, Bool.and_eq_true, decide_eq_true_eq] at hp
    unfold semD bSame
    simp
    refine ⟨by have := hp.1; omega, ?_⟩
    refine same_lc (w := fun x => .tuple x) (fun _ => rfl) hp.2 ?_
    rw [bools_true]; exact hq
  | _ => simp [pl] at hp
end Mi

namespace Mi
open PySem PySem.Spec L2
/-! ### sorted rows of ints -/
theorem leD_int (a b : Int) : leD' (.int a) (.int b) = decide (a ≤ b) := congrFun (congrFun (PySem.W.dataLe_int (β := Int) fun b => b) a) b
theorem srtOk_ints (ns : List Int) : SrtOk (dInts ns) where
  lay := by intro d hd; obtain ⟨i, _, rfl⟩ := List.mem_map.mp hd; rfl
  al := PySem.W.AllAlike.of fun _ _ => by simp [PySem.W.alike]
  so := PySem.W.Sortable.others fun _ => ⟨by simp, by simp⟩
  dp := by intro d hd; obtain ⟨i, _, rfl⟩ := List.mem_map.mp hd; simp [PyData.depth]
def isort (ns : List Int) : List Int := ns.mergeSort fun a b => decide (a ≤ b)
theorem srt_ints (ns : List Int) : srt (dInts ns) = dInts (isort ns) := by
  unfold srt dInts isort
  exact (List.map_mergeSort (fun a _ b _ => (leD_int a b).symm)).symm
theorem isort_mem {ns : List Int} {a : Int} : a ∈ isort ns ↔ a ∈ ns := List.mem_mergeSort
theorem isort_len (ns : List Int) : (isort ns).length = ns.length := List.length_mergeSort _
theorem isort_sorted (ns : List Int) : (isort ns).Pairwise (· ≤ ·) := by
  have h := List.pairwise_mergeSort (le := fun (a b : Int) => decide (a ≤ b)) (fun a b c h1 h2 => by simp at *; omega) (fun a b => by simp; omega) ns
  unfold isort
  exact h.imp fun h => by simpa using h
/-- the first of a row of ints that meets p, up to hi -/
theorem least {p : Int → Prop} [DecidablePred p] {lo hi : Int} (hl : lo ≤ hi) (hp : p hi) : ∃ m, lo ≤ m ∧ m ≤ hi ∧ p m ∧ ∀ k, lo ≤ k → k < m → ¬ p k := by
  have : ∀ (n : Nat) (lo : Int), (hi - lo).toNat = n → lo ≤ hi → ∃ m, lo ≤ m ∧ m ≤ hi ∧ p m ∧ ∀ k, lo ≤ k → k < m → ¬ p k := by
    intro n
    induction n with
    | zero =>
      intro lo h1 h2
      exact ⟨hi, h2, Int.le_refl _, hp, fun k h3 h4 => by omega⟩
    | succ n ih =>
      intro lo h1 h2
      by_cases h : p lo
      · exact ⟨lo, Int.le_refl _, h2, h, fun k h3 h4 => by omega⟩
      · obtain ⟨m, h3, h4, h5, h6⟩ := ih (lo + 1) (by omega) (by omega)
        refine ⟨m, by omega, h4, h5, fun k h7 h8 => ?_⟩
        by_cases e : k = lo
        · rw [e]; exact h
        · exact h6 k (by omega) h8
  exact this _ lo rfl hl
theorem rng_mem {lo hi k : Int} : k ∈ rng lo hi ↔ lo ≤ k ∧ k < hi := by
  unfold rng
  simp only [List.mem_map, List.mem_range]
  constructor
  · rintro ⟨i, h, rfl⟩; omega
  · rintro ⟨h1, h2⟩; exact ⟨(k - lo).toNat, by omega, by omega⟩
theorem rng_cons {lo hi : Int} (h : lo < hi) : rng lo hi = lo :: rng (lo + 1) hi := by
  unfold rng
  have : (hi - lo).toNat = (hi - (lo + 1)).toNat + 1 := by omega
  rw [this, List.range_succ_eq_map, List.map_cons, List.map_map]
  congr 1
  · simp
  · apply List.map_congr_left
    intro i _
    simp only [Function.comp]
    omega
theorem rng_nil {lo hi : Int} (h : hi ≤ lo) : rng lo hi = [] := by
  unfold rng
  rw [show (hi - lo).toNat = 0 by omega]; rfl
theorem rng_filter_head {p : Int → Bool} {lo hi m : Int} (h1 : lo ≤ m) (h2 : m < hi) (hp : p m = true) (hn : ∀ k, lo ≤ k → k < m → p k = false) : ∃ r, (rng lo hi).filter p = m :: r := by
  have : ∀ (n : Nat) (lo : Int), (m - lo).toNat = n → lo ≤ m → (∀ k, lo ≤ k → k < m → p k = false) → ∃ r, (rng lo hi).filter p = m :: r := by
    intro n
    induction n with
    | zero =>
      intro lo e h1 _
      have : lo = m := by omega
      subst this
      rw [rng_cons h2, List.filter_cons_of_pos hp]
      exact ⟨_, rfl⟩
    | succ n ih =>
      intro lo e h1 hn
      rw [rng_cons (by omega), List.filter_cons_of_neg (by simp [hn lo (Int.le_refl _) (by omega)])]
      exact ih (lo + 1) (by omega) (by omega) fun k h3 h4 => hn k (by omega) h4
  exact this _ lo rfl h1 hn
theorem small_of {i : Int} (h : -1000000 < i) (h2 : i < 1000000) : small i = true := by unfold small; exact @decide_eq_true _ (Classical.propDecidable _) (by omega)
theorem dInts_get {ns : List Int} {i : Nat} (h : i < ns.length) : (dInts ns)[i]? = some (.int ns[i]) := by unfold dInts; rw [List.getElem?_map]; simp [h]
theorem at_dInts {ns : List Int} {i : Int} (h0 : 0 ≤ i) (h : i < ns.length) : atI (dInts ns) i = some (.int (ns[i.toNat]'(by omega))) := by
  have h2 : i.toNat < ns.length := by omega
  have := atI_nat (dInts_get h2)
  rw [show ((i.toNat : Nat) : Int) = i by omega] at this
  exact this
theorem pl_int {n : Nat} {i : Int} : pl (n + 1) (.int i) = true := rfl
theorem pl_ints {n : Nat} {ns : List Int} (h : ns.length ≤ 16777216) : pl (n + 2) (.list (dInts ns)) = true ∧ pl (n + 2) (.tuple (dInts ns)) = true := by
  have e : (dInts ns).all (pl (n + 1)) = true := by
    rw [List.all_eq_true]
    intro d hd
    obtain ⟨i, _, rfl⟩ := List.mem_map.mp hd
    rfl
  constructor <;> (simp only [pl, Bool.and_eq_true, decide_eq_true_eq, dInts_len]; exact ⟨h, e⟩)
end Mi

namespace Mi
open PySem PySem.Spec L2
/-! ### == of rows of ints -/
theorem canLay_ints : ∀ xs : List Int, PyData.canLayAll0 (dInts xs) = true
  | [] => rfl
  | x :: xs => by
    show (PyData.canLay0 (.int x) && PyData.canLayAll0 (dInts xs)) = true
    rw [canLay_ints xs]; rfl
theorem depth_ints0 : ∀ xs : List Int, PyData.depthAll (dInts xs) = 0
  | [] => rfl
  | x :: xs => by
    show max (PyData.depth (.int x)) (PyData.depthAll (dInts xs)) = 0
    rw [depth_ints0 xs]; rfl
theorem shaped_tI (xs : List Int) : SeqAt.shaped (.tuple (dInts xs)) = true := by
  have h : (PyData.tuple (dInts xs)).depth ≤ 64 := by show PyData.depthAll (dInts xs) + 1 ≤ 64; rw [depth_ints0]; decide
  exact Bool.and_eq_true_iff.mpr ⟨canLay_ints xs, decide_eq_true h⟩
theorem shaped_lI (xs : List Int) : SeqAt.shaped (.list (dInts xs)) = true := by
  have h : (PyData.list (dInts xs)).depth ≤ 64 := by show PyData.depthAll (dInts xs) + 1 ≤ 64; rw [depth_ints0]; decide
  exact Bool.and_eq_true_iff.mpr ⟨canLay_ints xs, decide_eq_true h⟩
theorem eqv_ints : ∀ xs ys : List Int, PyData.eqvAll (dInts xs) (dInts ys) = decide (xs = ys)
  | [], [] => rfl
  | [], _ :: _ => rfl
  | _ :: _, [] => rfl
  | x :: xs, y :: ys => by
    show (PyData.eqv (.int x) (.int y) && PyData.eqvAll (dInts xs) (dInts ys)) = _
    rw [eqv_ints xs ys]
    show ((x == y) && decide (xs = ys)) = _
    by_cases h1 : x = y <;> by_cases h2 : xs = ys <;> simp [h1, h2]
theorem eq_tI {xs ys : List Int} : eqD (.tuple (dInts xs)) (.tuple (dInts ys)) = some (.bool (decide (xs = ys))) := by
  have h : eqB (.tuple (dInts xs)) (.tuple (dInts ys)) = some (decide (xs = ys)) := by
    rw [← eqv_ints xs ys]
    exact if_pos ⟨shaped_tI xs, shaped_tI ys⟩
  unfold eqD
  rw [h]; rfl
theorem ne_tI {xs ys : List Int} : neD (.tuple (dInts xs)) (.tuple (dInts ys)) = some (.bool (!decide (xs = ys))) := by
  have h : eqB (.tuple (dInts xs)) (.tuple (dInts ys)) = some (decide (xs = ys)) := by
    rw [← eqv_ints xs ys]
    exact if_pos ⟨shaped_tI xs, shaped_tI ys⟩
  unfold neD
  rw [h]; rfl
theorem eq_lI {xs ys : List Int} : eqD (.list (dInts xs)) (.list (dInts ys)) = some (.bool (decide (xs = ys))) := by
  have h : eqB (.list (dInts xs)) (.list (dInts ys)) = some (decide (xs = ys)) := by
    rw [← eqv_ints xs ys]
    exact if_pos ⟨shaped_lI xs, shaped_lI ys⟩
  unfold eqD
  rw [h]; rfl
theorem ne_lI {xs ys : List Int} : neD (.list (dInts xs)) (.list (dInts ys)) = some (.bool (!decide (xs = ys))) := by
  have h : eqB (.list (dInts xs)) (.list (dInts ys)) = some (decide (xs = ys)) := by
    rw [← eqv_ints xs ys]
    exact if_pos ⟨shaped_lI xs, shaped_lI ys⟩
  unfold neD
  rw [h]; rfl
@[simp] theorem ne_t3 {a b c a' b' c' : Int} : neD (.tuple [.int a, .int b, .int c]) (.tuple [.int a', .int b', .int c']) = some (.bool (!decide (a = a' ∧ b = b' ∧ c = c'))) := by
  have := ne_tI (xs := [a, b, c]) (ys := [a', b', c'])
  simpa [dInts] using this
@[simp] theorem eq_t3 {a b c a' b' c' : Int} : eqD (.tuple [.int a, .int b, .int c]) (.tuple [.int a', .int b', .int c']) = some (.bool (decide (a = a' ∧ b = b' ∧ c = c'))) := by
  have := eq_tI (xs := [a, b, c]) (ys := [a', b', c'])
  simpa [dInts] using this
@[simp] theorem ne_t2 {a b a' b' : Int} : neD (.tuple [.int a, .int b]) (.tuple [.int a', .int b']) = some (.bool (!decide (a = a' ∧ b = b'))) := by
  have := ne_tI (xs := [a, b]) (ys := [a', b'])
  simpa [dInts] using this
@[simp] theorem eq_t2 {a b a' b' : Int} : eqD (.tuple [.int a, .int b]) (.tuple [.int a', .int b']) = some (.bool (decide (a = a' ∧ b = b'))) := by
  have := eq_tI (xs := [a, b]) (ys := [a', b'])
  simpa [dInts] using this
theorem pl_t3 {n : Nat} {a b c : Int} : pl (n + 2) (.tuple [.int a, .int b, .int c]) = true := (pl_ints (n := n) (ns := [a, b, c]) (by show 3 ≤ 16777216; decide)).2
theorem con_tupI {K : Fg} {mg : Str → Option Value} {h : Heap} {x : Str} {a : Addr} {ns : List Int} {its : Array Value} {n : Nat} {sl : Array (Option Value)} (X : K.K.In h) (G : h.Ns mainGlobals mg)
    (e : PySem.W.nsIn K mainGlobals x = some (some (.ref a))) (l : K.K.lookup a = some ⟨.type "tuple", none, .seq its n, sl⟩) (v : Vals (ns.map V.int) its.toList) (hl : ns.length ≤ 1000) : Con K mg x (.tuple (dInts ns)) := by
  have hv := v.length
  rw [List.length_map] at hv
  have hz : its.size ≤ sizeLine := by
    rw [sizeLine_eq, ← Array.length_toList, ← hv]
    omega
  exact ⟨.ref a, .ref a, PySem.W.mg_of X G e, rfl, fun F => .tup (.inr ⟨_, its, n, l, ⟨rfl, rfl⟩, rfl, hz, v⟩) (by rw [dInts_len, sizeLine_eq]; omega) (Rvs.ofInts ns)⟩
end Mi

namespace Mi
open PySem PySem.Spec L2
theorem rng_snoc' {lo hi : Int} (h : lo ≤ hi) : rng lo (hi + 1) = rng lo hi ++ [hi] := by
  unfold rng
  rw [show (hi + 1 - lo).toNat = (hi - lo).toNat + 1 by omega, List.range_succ, List.map_append]
  congr 1
  simp
  omega
theorem rng_filter_last {p : Int → Bool} {lo hi m : Int} (h1 : lo ≤ m) (h2 : m < hi) (hp : p m = true) (hn : ∀ k, m < k → k < hi → p k = false) : ∃ r, (rng lo hi).filter p = r ++ [m] := by
  have : ∀ (n : Nat) (hi : Int), (hi - m).toNat = n + 1 → (∀ k, m < k → k < hi → p k = false) → ∃ r, (rng lo hi).filter p = r ++ [m] := by
    intro n
    induction n with
    | zero =>
      intro hi e hn
      have : hi = m + 1 := by omega
      subst this
      rw [rng_snoc' h1, List.filter_append]
      exact ⟨_, by simp [hp]; rfl⟩
    | succ n ih =>
      intro hi e hn
      obtain ⟨r, hr⟩ := ih (hi - 1) (by omega) fun k k0 k1 => hn k k0 (by omega)
      have e2 : hi = (hi - 1) + 1 := by omega
      rw [e2, rng_snoc' (by omega), List.filter_append, hr]
      have : p (hi - 1) = false := hn _ (by omega) (by omega)
      exact ⟨r, by simp [this]⟩
  exact this (hi - m - 1).toNat hi (by omega) hn
theorem at_end {α : Type} {r : List α} {a : α} : atI (r ++ [a]) (-1) = some a := by
  have e : ixN (r ++ [a]).length (-1) = some r.length := by
    unfold ixN
    rw [if_neg (by omega), if_pos (by simp only [List.length_append, List.length_cons, List.length_nil]; omega)]
    congr 1
    simp
    omega
  unfold atI
  rw [e]
  show (r ++ [a])[r.length]? = some a
  simp
theorem in_lI {a : Int} {xs : List Int} : inD (.int a) (.list (dInts xs)) = some (.bool (decide (a ∈ xs))) := by
  have h : inB (.int a) (.list (dInts xs)) = some (decide (a ∈ xs)) := by
    have e : ∀ ys : List Int, ((dInts ys).any fun z => PyData.eqv z (.int a)) = decide (a ∈ ys) := by
      intro ys
      induction ys with
      | nil => rfl
      | cons y ys ih =>
        show (PyData.eqv (.int y) (.int a) || (dInts ys).any fun z => PyData.eqv z (.int a)) = _
        rw [ih]
        show ((y == a) || decide (a ∈ ys)) = _
        by_cases h1 : a = y
        · subst h1; simp
        · have : ¬ y = a := fun z => h1 z.symm
          simp [h1, this]
    have := e xs
    rw [← this]
    exact if_pos ⟨rfl, shaped_lI xs⟩
  unfold inD
  rw [h]; rfl
theorem sum_map_rng {f g : Int → Int} {a b : Int} (h : a ≤ b) (hf : ∀ k, a ≤ k → k < b → g (k + 1) = g k + f k) : ((rng a b).map f).sum = g b - g a := by
  have : ∀ (n : Nat) (b : Int), b = a + (n : Int) → (∀ k, a ≤ k → k < b → g (k + 1) = g k + f k) → ((rng a b).map f).sum = g b - g a := by
    intro n
    induction n with
    | zero => intro b e _; have : b = a := by omega
              subst this; rw [rng_nil (Int.le_refl _)]; simp
    | succ n ih =>
      intro b e hf
      have e2 : b = (a + (n : Int)) + 1 := by omega
      rw [e2, rng_snoc' (by omega), List.map_append, List.sum_append, ih _ rfl fun k k0 k1 => hf k k0 (by omega), hf _ (by omega) (by omega)]
      simp
      omega
  exact this (b - a).toNat b (by omega) hf
end Mi

namespace Mi
open PySem PySem.Spec L2
/-! ### xs.index(v), gcd -/
def idxL (ds : List D) (d : D) : Option D := if SeqAt.shaped (.list ds) = true ∧ SeqAt.shaped d = true then (ds.findIdx? fun z => PyData.eqv z d).map fun j => .int (j : Int) else none
def sIdx (ma mc : SE) : SE := fun env Q => ma env fun x => match x with
  | .list ds => mc env fun z => ob (idxL ds z) Q
  | _ => False
section
variable {X : Cx} {b b' : Bool} {a c e o : Expr} {ma mc me : SE} {pos apos cpos npos : Pos}
theorem me_idx (hu : X.A.units + 65 < cLine) (ha : ME X true a ma) (hc : ME X true c mc)
    (hbase : attributeBase a "index" X.env (eval a X.env) = eval a X.env := by rfl)
    (hfew : ((backTo cpos (starEach [c] X.env)).all (fun x => !x.1) && (backToKw cpos (keywordEach [] X.env)).all (fun x => x.1.isSome)
      && decide ([c].length + ([] : List Keyword).length + (if ([] : List Keyword).isEmpty then 0 else 1) < 30)) = true := by rfl)
    (hline : (apos.endLine == cpos.line) = true := by rfl) (hs : starEach [c] X.env = (false, eval c X.env) :: starEach [] X.env := by rfl) (hplain : (backTo cpos (starEach [] X.env)).any (·.1) = false := by rfl) :
    ME X b' (.Call (.Attribute a "index" apos) [c] [] cpos) (sIdx ma mc) := by
  refine ⟨⟨fun pins s σ H Q I h => (pe_bm PySem.F.plainAttrs_list PySem.F.slot_list_index PySem.F.type_list_index (mt_indexD hu) ha.run (pa_cons hc.run pa_nil hs) hbase hfew hline hs hplain).run pins s σ H Q I ?_⟩,
    fun env P Q k h => ha.mono _ _ _ (fun d hd => by cases d <;> first | exact hc.mono _ _ _ (fun _ h2 => ob_mono k h2) hd | exact hd) h⟩
  obtain ⟨y, dr, F, env, re, hm⟩ := h
  refine ⟨y, dr, F, env, re, ha.mono _ _ _ (fun d hd v H1 F1 r1 s1 w1 => ?_) hm⟩
  cases d with
  | list ds =>
    obtain ⟨p, vs, rfl, h1, z1, rv⟩ := w1.list r1
    refine ⟨.inl ⟨rfl, _, SqL.of h1⟩, y, dr, F1, env, r1, hc.mono _ _ _ (fun d2 h2 v2 H2 F2 r2 s2 w2 => ?_) hd⟩
    unfold idxL at h2
    by_cases c1 : SeqAt.shaped (.list ds) = true ∧ SeqAt.shaped d2 = true
    · rw [if_pos c1] at h2
      cases q : ds.findIdx? fun z => PyData.eqv z d2 with
      | none => rw [q] at h2; exact h2.elim
      | some j =>
        rw [q] at h2
        obtain ⟨hj, hp, hn⟩ := List.findIdx?_eq_some_iff_getElem.mp q
        have dl := (w1.mono s2).dp r2 (lay_shaped c1.1)
        have dv := w2.dp r2 (lay_shaped c1.2)
        refine ⟨p, v2, d2, ds, j, ds[j], rfl, rfl, dl, dv, c1.1, c1.2, by simp [hj], hp, fun m z' hm hz => ?_, h2 _ H2 F2 r2 (s1.trans s2) (.inl (.int _))⟩
        have hml : m < ds.length := by omega
        have e : z' = ds[m] := by rw [List.getElem?_eq_getElem hml] at hz; exact (Option.some.inj hz).symm
        rw [e]
        have := hn m hm
        simpa using this
    · rw [if_neg c1] at h2; exact h2.elim
  | _ => exact hd.elim
def gcdD : D → D → Option D
  | .int i, .int j => some (.int (Nat.gcd i.natAbs j.natAbs : Nat))
  | _, _ => none
@[simp] theorem gcd_i {i j : Int} : gcdD (.int i) (.int j) = some (.int (Nat.gcd i.natAbs j.natAbs : Nat)) := rfl
@[simp] theorem u_sIdx {ma mc : SE} {env : En} {Q : D → Prop} : sIdx ma mc env Q = (ma env fun x => match x with | .list ds => mc env fun z => ob (idxL ds z) Q | _ => False) := rfl
theorem me_gcd {p : Pos} {x : Str} (hg : Gl X x) (hm : X.mg x = some (.builtin "math.gcd")) (ha : ME X true a ma) (hc : ME X true c mc) (hdb : (x == ("__debug__" : Str)) = false := by decide)
    (he : starEach [a, c] X.env = (false, eval a X.env) :: starEach [c] X.env := by rfl) (he2 : starEach [c] X.env = (false, eval c X.env) :: starEach [] X.env := by rfl) (hpl : (backTo pos (starEach [c] X.env)).any (·.1) = false := by rfl) :
    ME X b' (.Call (.Name x p) [a, c] [] pos) (sOp gcdD ma mc) := by
  have ok : Ok2 X true gcdD (fun x z H Q => rGcd [x, z] H Q) := by
    intro y dr F env σ H d1 d2 d v1 v2 Q re w1 w2 e k
    unfold gcdD at e
    split at e
    · cases e
      exact ⟨_, _, by rw [w1.int, w2.int], k _ H F re Ex.refl (.int _)⟩
    · cases e
  exact ⟨⟨fun pins s σ H Q I h => (pe_callBfun cr_gcd hg hm (pa_cons ha.run (pa_cons hc.run pa_nil he2) he) hdb he hpl).run pins s σ H Q I (op_red (r := fun x z H Q => rGcd [x, z] H Q) ok ha hc h)⟩, op_mono ha hc⟩
/-- the place of the first equal one in a row of ints -/
theorem idx_ints {xs : List Int} {a : Int} : idxL (dInts xs) (.int a) = (xs.findIdx? fun z => z == a).map fun j => PyData.int (j : Int) := by
  unfold idxL
  rw [if_pos ⟨shaped_lI xs, rfl⟩]
  congr 1
  unfold dInts
  rw [List.findIdx?_map]
  rfl
end
end Mi

namespace Mi
open PySem PySem.Spec L2
/-! ### [x] * n as a new list -/
def sRep (ma mc : SE) : SL := fun env Q => ma env fun x => mc env fun z => match x, z with
  | .list xs, .int k => (-4611686018427387904 ≤ k ∧ k < 4611686018427387904 ∧ xs.length * k.toNat ≤ 16777216) ∧ Q (List.replicate k.toNat xs).flatten
  | _, _ => False
section
variable {X : Cx} {b b' : Bool} {a c e o : Expr} {ma mc me : SE} {pos apos cpos npos : Pos}
theorem rvs_rep {K : Fg} {F : Hp} {xs : List D} {vs : List V} (r : Rvs K F xs vs) : ∀ n : Nat, Rvs K F (List.replicate n xs).flatten (List.replicate n vs).flatten
  | 0 => .nil
  | n + 1 => by
    rw [List.replicate_succ, List.replicate_succ, List.flatten_cons, List.flatten_cons]
    exact r.append (rvs_rep r n)
theorem mf_rep (ha : ME X true a ma) (hc : ME X true c mc) : MF X (.BinOp a .Mult c pos) (sRep ma mc) := by
  refine ⟨⟨fun pins s σ H Q I h => (pe_op op_rep ha.run hc.run).run pins s σ H Q I ?_⟩, fun env P Q k h => ha.mono _ _ _ (fun d h1 => hc.mono _ _ _ (fun d2 h2 => ?_) h1) h⟩
  · obtain ⟨y, dr, F, env, re, hm⟩ := h
    refine ⟨y, dr, F, env, re, ha.mono _ _ _ (fun d1 h1 v1 H1 F1 r1 s1 w1 => ?_) hm⟩
    refine ⟨y, dr, F1, env, r1, hc.mono _ _ _ (fun d2 h2 v2 H2 F2 r2 s2 w2 => ?_) h1⟩
    split at h2
    · rename_i xs k
      obtain ⟨p, vs, rfl, e1, z1, rv⟩ := (w1.mono s2).list r2
      have hl : (List.replicate k.toNat xs).flatten.length = xs.length * k.toNat := by
        rw [List.length_flatten, List.map_replicate, List.sum_replicate_nat, Nat.mul_comm]
      refine ⟨p, k, vs, rfl, w2.int, e1, by have := h2.1; omega, by have := h2.1; omega, by rw [← rv.length, sizeLine_eq]; exact h2.1.2.2, fun q hq => ?_⟩
      exact new_lst r2 (s1.trans s2) hq (rvs_rep rv _) (by rw [hl, sizeLine_eq]; exact h2.1.2.2) h2.2
    · exact h2.elim
  · split at h2
    · exact ⟨h2.1, k _ h2.2⟩
    · exact h2
/-! list(range(..)), tuple(range(..)) -/
theorem rgV_eq (a b : Int) : rgV a b = (rng a b).map V.int := by unfold rgV rng; rw [List.map_map]; rfl
theorem mf_lR1 {p p2 pos2 : Pos} (hcm : X.calm = true) (hg : Gl X "list") (hm : X.mg "list" = none) (hg2 : Gl X "range") (hm2 : X.mg "range" = none) (ha : ME X true a ma) (na : starEach [a] X.env = (false, eval a X.env) :: starEach [] X.env := by rfl)
    (na2 : starEach [.Call (.Name "range" p2) [a] [] pos2] X.env = (false, eval (.Call (.Name "range" p2) [a] [] pos2) X.env) :: starEach [] X.env := by rfl) : MF X (.Call (.Name "list" p) [.Call (.Name "range" p2) [a] [] pos2] [] pos) (iR1 ma) := by
  refine ⟨⟨fun pins s σ H Q I h => (pe_listRg hcm hg hm (prg_1 hg2 hm2 ha.run na) na2).run pins s σ H Q I ?_⟩, fun env P Q k h => ha.mono _ _ _ (fun d hd => by cases d <;> first | exact ⟨hd.1, k _ hd.2⟩ | exact hd) h⟩
  obtain ⟨y, dr, F, env, re, hm⟩ := h
  refine ⟨y, dr, F, env, re, ha.mono _ _ _ (fun d hd v H' F' r1 s1 w => ?_) hm⟩
  cases d with
  | int n =>
    refine ⟨n, w.int, ⟨by omega, by omega, by have := hd.1; omega, by have := hd.1; omega, by have := hd.1; omega⟩, fun q hq => ?_⟩
    rw [rgV_eq]
    exact new_lst r1 s1 hq (Rvs.ofInts _) (by rw [sizeLine_eq]; (try unfold dInts); unfold rng; rw [List.length_map, List.length_map, List.length_range]; have := hd.1; omega) hd.2
  | _ => exact hd.elim
theorem mf_lR2 {p p2 pos2 : Pos} (hcm : X.calm = true) (hg : Gl X "list") (hm : X.mg "list" = none) (hg2 : Gl X "range") (hm2 : X.mg "range" = none) (ha : ME X true a ma) (hc : ME X true c mc) (na : starEach [a, c] X.env = (false, eval a X.env) :: starEach [c] X.env := by rfl)
    (nb : starEach [c] X.env = (false, eval c X.env) :: starEach [] X.env := by rfl) (hp : (backTo pos2 (starEach [c] X.env)).any (·.1) = false := by rfl)
    (na2 : starEach [.Call (.Name "range" p2) [a, c] [] pos2] X.env = (false, eval (.Call (.Name "range" p2) [a, c] [] pos2) X.env) :: starEach [] X.env := by rfl) : MF X (.Call (.Name "list" p) [.Call (.Name "range" p2) [a, c] [] pos2] [] pos) (iR2 ma mc) := by
  refine ⟨⟨fun pins s σ H Q I h => (pe_listRg hcm hg hm (prg_2 hg2 hm2 ha.run hc.run na nb hp) na2).run pins s σ H Q I ?_⟩, fun env P Q k h => ha.mono _ _ _ (fun d hd => hc.mono _ _ _ (fun d' hd' => by cases d <;> cases d' <;> first | exact ⟨hd'.1, k _ hd'.2⟩ | exact hd') hd) h⟩
  obtain ⟨y, dr, F, env, re, hm⟩ := h
  refine ⟨y, dr, F, env, re, ha.mono _ _ _ (fun d hd v H' F' r1 s1 w => ?_) hm⟩
  refine ⟨y, dr, F', env, r1, hc.mono _ _ _ (fun d' hd' v' H2 F2 r2 s2 w' => ?_) hd⟩
  split at hd'
  · rename_i lo hi
    refine ⟨lo, hi, w.int, w'.int, ⟨by have := hd'.1; omega, by have := hd'.1; omega, by have := hd'.1; omega, by have := hd'.1; omega, by have := hd'.1; omega⟩, fun q hq => ?_⟩
    rw [rgV_eq]
    exact new_lst r2 (s1.trans s2) hq (Rvs.ofInts _) (by rw [sizeLine_eq]; (try unfold dInts); unfold rng; rw [List.length_map, List.length_map, List.length_range]; have := hd'.1; omega) hd'.2
  · exact hd'.elim
def sTupR (m : SL) : SE := fun env Q => m env fun xs => Q (.tuple xs)
@[simp] theorem u_sTupR {m : SL} {env : En} {Q : D → Prop} : sTupR m env Q = (m env fun xs => Q (.tuple xs)) := rfl
theorem me_tR1 {p p2 pos2 : Pos} (hcm : X.calm = true) (hg : Gl X "tuple") (hm : X.mg "tuple" = none) (hg2 : Gl X "range") (hm2 : X.mg "range" = none) (ha : ME X true a ma) (na : starEach [a] X.env = (false, eval a X.env) :: starEach [] X.env := by rfl)
    (na2 : starEach [.Call (.Name "range" p2) [a] [] pos2] X.env = (false, eval (.Call (.Name "range" p2) [a] [] pos2) X.env) :: starEach [] X.env := by rfl) : ME X b (.Call (.Name "tuple" p) [.Call (.Name "range" p2) [a] [] pos2] [] pos) (sTupR (iR1 ma)) := by
  refine ⟨⟨fun pins s σ H Q I h => (pe_tupRgP hcm hg hm (prg_1 hg2 hm2 ha.run na) na2).run pins s σ H Q I ?_⟩, fun env P Q k h => ha.mono _ _ _ (fun d hd => by cases d <;> first | exact ⟨hd.1, k _ hd.2⟩ | exact hd) h⟩
  obtain ⟨y, dr, F, env, re, hm⟩ := h
  refine ⟨y, dr, F, env, re, ha.mono _ _ _ (fun d hd v H' F' r1 s1 w => ?_) hm⟩
  cases d with
  | int n =>
    refine ⟨n, w.int, ⟨by omega, by omega, by have := hd.1; omega, by have := hd.1; omega, by have := hd.1; omega⟩, fun q o to hq => ?_⟩
    rw [rgV_eq]
    exact hd.2 _ _ _ (r1.laid hq) (s1.trans (r1.ex hq)) (.inl (Rv.tupNew (r1.nF hq) to (by rw [sizeLine_eq]; (try unfold dInts); unfold rng; rw [List.length_map, List.length_map, List.length_range]; have := hd.1; omega) (Rvs.ofInts _)))
  | _ => exact hd.elim
theorem me_tR2 {p p2 pos2 : Pos} (hcm : X.calm = true) (hg : Gl X "tuple") (hm : X.mg "tuple" = none) (hg2 : Gl X "range") (hm2 : X.mg "range" = none) (ha : ME X true a ma) (hc : ME X true c mc) (na : starEach [a, c] X.env = (false, eval a X.env) :: starEach [c] X.env := by rfl)
    (nb : starEach [c] X.env = (false, eval c X.env) :: starEach [] X.env := by rfl) (hp : (backTo pos2 (starEach [c] X.env)).any (·.1) = false := by rfl)
    (na2 : starEach [.Call (.Name "range" p2) [a, c] [] pos2] X.env = (false, eval (.Call (.Name "range" p2) [a, c] [] pos2) X.env) :: starEach [] X.env := by rfl) : ME X b (.Call (.Name "tuple" p) [.Call (.Name "range" p2) [a, c] [] pos2] [] pos) (sTupR (iR2 ma mc)) := by
  refine ⟨⟨fun pins s σ H Q I h => (pe_tupRgP hcm hg hm (prg_2 hg2 hm2 ha.run hc.run na nb hp) na2).run pins s σ H Q I ?_⟩, fun env P Q k h => ha.mono _ _ _ (fun d hd => hc.mono _ _ _ (fun d' hd' => by cases d <;> cases d' <;> first | exact ⟨hd'.1, k _ hd'.2⟩ | exact hd') hd) h⟩
  obtain ⟨y, dr, F, env, re, hm⟩ := h
  refine ⟨y, dr, F, env, re, ha.mono _ _ _ (fun d hd v H' F' r1 s1 w => ?_) hm⟩
  refine ⟨y, dr, F', env, r1, hc.mono _ _ _ (fun d' hd' v' H2 F2 r2 s2 w' => ?_) hd⟩
  split at hd'
  · rename_i lo hi
    refine ⟨lo, hi, w.int, w'.int, ⟨by have := hd'.1; omega, by have := hd'.1; omega, by have := hd'.1; omega, by have := hd'.1; omega, by have := hd'.1; omega⟩, fun q o to hq => ?_⟩
    rw [rgV_eq]
    exact hd'.2 _ _ _ (r2.laid hq) ((s1.trans s2).trans (r2.ex hq)) (.inl (Rv.tupNew (r2.nF hq) to (by rw [sizeLine_eq]; (try unfold dInts); unfold rng; rw [List.length_map, List.length_map, List.length_range]; have := hd'.1; omega) (Rvs.ofInts _)))
  · exact hd'.elim
@[simp] theorem u_sRep {ma mc : SE} {env : En} {Q : List D → Prop} : sRep ma mc env Q = (ma env fun x => mc env fun z => match x, z with
  | .list xs, .int k => (-4611686018427387904 ≤ k ∧ k < 4611686018427387904 ∧ xs.length * k.toNat ≤ 16777216) ∧ Q (List.replicate k.toNat xs).flatten
  | _, _ => False) := rfl
end
end Mi

namespace Mi
open PySem PySem.Spec L2
/-! ### plain helpers -/
theorem cut_from {α : Type} {xs : List α} {i : Int} (h : 0 ≤ i) : cut xs (some i) none = xs.drop i.toNat := by
  obtain ⟨k, rfl⟩ : ∃ k : Nat, i = (k : Int) := ⟨i.toNat, by omega⟩
  have e1 : HT.sIx xs.length 0 (some (k : Int)) = min k xs.length := HT.sIx_nat xs.length 0 k
  have e2 : HT.sIx xs.length xs.length none = xs.length := HT.sIx_none _ _
  unfold cut
  rw [e1, e2, Int.toNat_natCast]
  by_cases h : k ≤ xs.length
  · rw [show min k xs.length = k by omega, List.take_of_length_le]
    rw [List.length_drop]; omega
  · rw [show min k xs.length = xs.length by omega, List.drop_eq_nil_iff.mpr (Nat.le_refl _), List.drop_eq_nil_iff.mpr (by omega), List.take_nil]
theorem cut_upto {α : Type} {xs : List α} {i : Int} (h : 0 ≤ i) : cut xs none (some i) = xs.take i.toNat := by
  obtain ⟨k, rfl⟩ : ∃ k : Nat, i = (k : Int) := ⟨i.toNat, by omega⟩
  have e1 : HT.sIx xs.length xs.length (some (k : Int)) = min k xs.length := HT.sIx_nat xs.length xs.length k
  have e2 : HT.sIx xs.length 0 none = 0 := HT.sIx_none _ _
  unfold cut
  rw [e1, e2, Int.toNat_natCast]
  by_cases h : k ≤ xs.length
  · rw [show min k xs.length = k by omega]; rfl
  · rw [show min k xs.length = xs.length by omega, List.take_of_length_le (by simp), List.take_of_length_le (by omega)]
    rfl
theorem dI_app (xs ys : List Int) : dInts (xs ++ ys) = dInts xs ++ dInts ys := by unfold dInts; simp
theorem dI_one (xs : List Int) (a : Int) : dInts (xs ++ [a]) = dInts xs ++ [.int a] := by unfold dInts; simp
theorem dI_drop (xs : List Int) (n : Nat) : (dInts xs).drop n = dInts (xs.drop n) := by unfold dInts; simp
theorem dI_take (xs : List Int) (n : Nat) : (dInts xs).take n = dInts (xs.take n) := by unfold dInts; simp
theorem sum_dI {ns : List Int} : sumD (.list (dInts ns)) = some (.int ns.sum) := by
  unfold sumD dInts
  show (intsOf _).map _ = _
  rw [intsOf_map]
  rfl
theorem sum_dIt {ns : List Int} : sumD (.tuple (dInts ns)) = some (.int ns.sum) := by
  unfold sumD dInts
  show (intsOf _).map _ = _
  rw [intsOf_map]
  rfl
theorem at4 {α : Type} {a b c d e : α} {l : List α} : atI (a :: b :: c :: d :: e :: l) 4 = some e := at_some (j := 4) rfl rfl
theorem at5 {α : Type} {a b c d e f : α} {l : List α} : atI (a :: b :: c :: d :: e :: f :: l) 5 = some f := at_some (j := 5) rfl rfl
theorem at6 {α : Type} {a b c d e f g : α} {l : List α} : atI (a :: b :: c :: d :: e :: f :: g :: l) 6 = some g := at_some (j := 6) rfl rfl
theorem enum_get {k : Int} {xs : List D} {i : Nat} {d : D} (h : (enumL k xs)[i]? = some d) : ∃ e, xs[i]? = some e ∧ d = .tuple [.int (k + (i : Int)), e] := by
  have hl := (List.getElem?_eq_some_iff.mp h).1
  rw [enumL_len] at hl
  have := enumL_get k xs i xs[i] (by simp [hl])
  rw [h] at this
  cases this
  exact ⟨_, by simp [hl], rfl⟩
theorem dI_get {ns : List Int} {i : Nat} {d : D} (h : (dInts ns)[i]? = some d) : ∃ hi : i < ns.length, d = .int ns[i] := by
  have hl := (List.getElem?_eq_some_iff.mp h).1
  rw [dInts_len] at hl
  rw [dInts_get hl] at h
  cases h
  exact ⟨hl, rfl⟩
def nth (ns : List Int) (i : Nat) : Int := ns.getD i 0
theorem nth_eq {ns : List Int} {i : Nat} (h : i < ns.length) : nth ns i = ns[i] := by
  unfold nth
  rw [List.getD_eq_getElem?_getD, List.getElem?_eq_getElem h]
  rfl
theorem at_nth {ns : List Int} {i : Int} (h0 : 0 ≤ i) (h : i < ns.length) : atI (dInts ns) i = some (.int (nth ns i.toNat)) := by
  rw [at_dInts h0 h, nth_eq (by omega)]
theorem at_nthN {ns : List Int} {i : Nat} (h : i < ns.length) : atI (dInts ns) (i : Int) = some (.int (nth ns i)) := at_nth (by omega) (by omega)
theorem isort_perm (ns : List Int) : (isort ns).Perm ns := List.mergeSort_perm _ _
end Mi

namespace Mi
open PySem PySem.Spec L2
/-! ### set(xs) of a list of ints -/
abbrev eSet (w : World) : Obj :=
  { cls := .type "set", dict := none, data := .set #[] 0 (.fresh 0 0 (!w.params.followText "set-order")) }
open PyProof.Rows in
set_option maxHeartbeats 3200000 in
theorem set_listI {P : Program} {w : World} {A : Around} {E : Value → Shared → Prop} {s : Shared} {l : Addr} {its : Array Value} (ns : List Int) {Q : Value → Shared → Prop} (hh : A.handled = none) (hl : s.heap.IsList l its) (hi : IntsAre its.toList ns) (hb : ns.length + 1 < scanBound)
    (h : ∀ (h' : Heap) (tk c : Nat), SetR w h' s.heap.objs.size (fun j => decide (j ∈ ns)) c → c ≤ ns.length → (∀ b o, s.heap.get? b = some o → h'.get? b = some o) → Q (.ref s.heap.objs.size) { s with heap := h', toks := tk }) :
    wpAny (model P w) A (call (.type "set") [.ref l]) Q E s := by
  have hsz : its.size = ns.length := by
    rw [← hi.length, Array.length_toList]
  obtain ⟨c, tl, hmro⟩ := F.called_set.mro
  have m1 := F.called_set.made
  have m2 := F.called_set.sub
  have m3 := F.called_set.notType
  have m4 := F.called_set.canCreate
  have m5 := F.typeCall_set_1 (.ref l)
  apply wpAny_call
  apply codeAny_of_tree
  show wpAny _ _ (callAny (.type "set")
    _) _ _ _
  apply wpAny_pure
  refine ⟨Code.quiet_builtin _ (by decide +kernel), ?_⟩
  apply codeAny_builtin F.entry_type_call
  rw [Around.under_plain
    (weight_type_call_type "set" [.ref l] []) rfl]
  repeat (any_goals (first | assumption | wp_step))
  refine codeAny_mono (code_set_led1 (.ref l) (E := E) (Q₁ := fun obj s₁ => obj = .ref s.heap.objs.size ∧ s₁ = { s with heap := s.heap.push (eSet w) }) ⟨rfl, rfl⟩) ?_
  intro r s₁ hr
  cases r with
  | error e => exact hr
  | ok fl =>
    cases fl with
    | ret obj =>
      obtain ⟨rfl, rfl⟩ := hr
      have hS : (s.heap.push (eSet w)).get? s.heap.objs.size = some (eSet w) := Heap.get?_push_size _ rfl
      have hT : Shared.TypeIs { s with heap := s.heap.push (eSet w) } (.ref s.heap.objs.size) "set" := ⟨_, hS, rfl⟩
      have m6 := F.called_set.init.lookup
      have m7 := F.called_set.init.bind (.ref s.heap.objs.size)
      repeat (any_goals (first | assumption | wp_step))
      refine codeAny_mono (codeAny_call_builtin (R := wants (fun r s₂ => r = .none ∧ ∃ h' tk c, s₂ = { s with heap := h', toks := tk } ∧ SetR w h' s.heap.objs.size (fun j => decide (j ∈ ns)) c ∧ c ≤ ns.length ∧ (∀ b o, s.heap.get? b = some o → h'.get? b = some o)) E) F.called_set.init.plain F.entry_set_init (check_set_init_1 hT ?_)) ?_
      · obtain ⟨ol, hol, hcl, nl, hdl⟩ := hl
        obtain ⟨oc, od, odt, osl⟩ := ol
        simp only at hcl hdl
        subst hcl
        subst hdl
        have hl0 : (s.heap.push (eSet w)).get? l = some { cls := .type "list", dict := od, data := .seq its nl, slots := osl } := Heap.get?_push_of_some _ hol
        have n1 := F.sub_list_set
        have n2 := F.sub_list_frozenset
        have n3 : (Value.type "list" == Value.type "dict") = false := by decide
        have hl1 : (s.heap.push (eSet w)).IsList l its := ⟨_, hl0, rfl, nl, rfl⟩
        unfold Builtin.«set.__init__»
        unfold noKeywords
        unfold Builtin.Frozenset.updateFrom
        generalize hPI : pyIter = PI
        wp_walk
        subst hPI
        apply wpAny_pyIter_list hl1
        apply wpAny_bind
        apply wpAny_runValue
        have p1 : l < s.heap.objs.size := Heap.lt_size hol
        have p2 : A.in1.in1.in1.handled = none := by simp [hh]
        have p3 : (s.heap.push (eSet w)).objs.size = s.heap.objs.size + 1 := Heap.size_push ..
        have p4 : l ≠ (s.heap.push (eSet w)).objs.size := by rw [p3]; exact Nat.ne_of_lt (Nat.lt_succ_of_lt p1)
        have p5 : s.heap.objs.size ∉ [(s.heap.push (eSet w)).objs.size, l] := by
          rw [p3]
          intro z
          rcases List.mem_cons.mp z with z | z
          · exact Nat.ne_of_lt (Nat.lt_succ_self _) z
          · exact Nat.ne_of_gt p1 (List.mem_singleton.mp z)
        have p6 : ∀ (i : Nat) (v : Value), its[i]? = some v → ∃ k t, ns[i]? = some k ∧ v = .int k t := fun i v hv => by
          have hin : i < ns.length := by rw [← hsz]; exact (Array.getElem?_eq_some_iff.mp hv).1
          obtain ⟨t, e⟩ := IntsAre.int_at hi i v (by rw [Array.getElem?_toList]; exact hv)
          rw [List.getD_eq_getElem?_getD, List.getElem?_eq_getElem hin] at e
          exact ⟨ns[i], t, List.getElem?_eq_getElem hin, e⟩
        refine set_update_ints ((Walks.list p2 _ l p4 its).toS) s.heap.objs.size p5 ns hsz hb p6 (its.size - 0) 0 _ (by omega) (Nat.zero_le _) ⟨⟨_, Heap.get?_push_size _ rfl, rfl, rfl⟩, hl1.push _⟩ ⟨0, Nat.le_refl 0, setR_new_at (Heap.get?_push_of_some _ hS)⟩ ?_
        rintro ⟨h', g2, d', tk', os'⟩ c' hm hc' hS'
        have eg : g2 = s.gens := hm.gens
        have ed : d' = s.drawn := hm.drawn
        have eo : os' = s.os := hm.os
        subst eg ed eo
        show wpAny _ _ _ _ _ _
        apply wpAny_pure
        show wpAny _ _ (ret Value.none)
          _ _ _
        refine wpAny_pure ⟨rfl, h', tk', c', rfl, hS', by omega, fun b o e => ?_⟩
        have b0 : b < s.heap.objs.size := Heap.lt_size e
        refine hm.heap b o (fun z => ?_) (Heap.get?_push_of_some _ (Heap.get?_push_of_some _ e))
        rcases List.mem_cons.mp z with z | z
        · exact Nat.ne_of_lt b0 z
        · rw [p3] at z
          exact Nat.ne_of_lt (Nat.lt_succ_of_lt b0) (List.mem_singleton.mp z)
      · intro r₂ s₂ hr₂
        cases r₂ with
        | error e => exact hr₂
        | ok fl₂ =>
          cases fl₂ with
          | ret r =>
            obtain ⟨rfl, h', tk, c, rfl, hS', hc', hk'⟩ := hr₂
            repeat (any_goals (first | assumption | wp_step))
            exact h _ _ c hS' hc' hk'
          | _ => exact hr₂.elim
    | _ => exact hr.elim
end Mi

namespace Mi
open PySem PySem.Spec L2
/-! ### sorted(set(xs)), len(set(xs)) of a list of ints -/
/-- the members of a row of ints, once each, rising -/
def dd : List Int → List Int
  | [] => []
  | x :: r => if x ∈ r then dd r else x :: dd r
theorem dd_mem : ∀ {ns : List Int} {a : Int}, a ∈ dd ns ↔ a ∈ ns
  | [], a => Iff.rfl
  | x :: r, a => by
    unfold dd
    have ih := dd_mem (ns := r) (a := a)
    split
    · rename_i h
      rw [ih, List.mem_cons]
      exact ⟨.inr, fun z => z.elim (fun e => e ▸ h) id⟩
    · rw [List.mem_cons, List.mem_cons, ih]
theorem dd_nodup : ∀ (ns : List Int), (dd ns).Nodup
  | [] => .nil
  | x :: r => by
    unfold dd
    split
    · exact dd_nodup r
    · rename_i h
      exact List.nodup_cons.mpr ⟨fun z => h (dd_mem.mp z), dd_nodup r⟩
theorem dd_len : ∀ (ns : List Int), (dd ns).length ≤ ns.length
  | [] => Nat.le_refl _
  | x :: r => by
    unfold dd
    have := dd_len r
    split <;> simp only [List.length_cons] <;> omega
def usort (ns : List Int) : List Int := isort (dd ns)
theorem usort_mem {ns : List Int} {a : Int} : a ∈ usort ns ↔ a ∈ ns := by
  unfold usort
  rw [isort_mem, dd_mem]
theorem lt_uniq : ∀ {xs ys : List Int}, xs.Pairwise (· < ·) → ys.Pairwise (· < ·) → (∀ a, a ∈ xs ↔ a ∈ ys) → xs = ys
  | [], [], _, _, _ => rfl
  | [], y :: ys, _, _, h => by have := (h y).mpr (by simp); cases this
  | x :: xs, [], _, _, h => by have := (h x).mp (by simp); cases this
  | x :: xs, y :: ys, h1, h2, h => by
    rw [List.pairwise_cons] at h1 h2
    have e : x = y := by
      have a1 := (h x).mp (by simp)
      have a2 := (h y).mpr (by simp)
      rcases List.mem_cons.mp a1 with z | z
      · exact z
      · rcases List.mem_cons.mp a2 with z2 | z2
        · exact z2.symm
        · have := h1.1 y z2
          have := h2.1 x z
          omega
    subst e
    rw [lt_uniq h1.2 h2.2 fun a => ?_]
    constructor
    · intro z
      rcases List.mem_cons.mp ((h a).mp (by simp [z])) with q | q
      · have := h1.1 a z; omega
      · exact q
    · intro z
      rcases List.mem_cons.mp ((h a).mpr (by simp [z])) with q | q
      · have := h2.1 a z; omega
      · exact q
theorem lt_of_le_nd : ∀ {xs : List Int}, xs.Pairwise (· ≤ ·) → xs.Nodup → xs.Pairwise (· < ·)
  | [], _, _ => .nil
  | x :: xs, h, hn => by
    rw [List.pairwise_cons] at h
    rw [List.nodup_cons] at hn
    refine List.pairwise_cons.mpr ⟨fun a ha => ?_, lt_of_le_nd h.2 hn.2⟩
    have := h.1 a ha
    have : a ≠ x := fun z => hn.1 (z ▸ ha)
    omega
theorem usort_lt (ns : List Int) : (usort ns).Pairwise (· < ·) := by
  refine lt_of_le_nd (isort_sorted _) ?_
  exact (isort_perm _).nodup_iff.mpr (dd_nodup ns)
theorem usort_len (ns : List Int) : (usort ns).length ≤ ns.length := by
  unfold usort
  rw [isort_len]
  exact dd_len ns
def rSetOfL (X : Cx) : List V → Hp → VK → Prop := fun xs H Q => ∃ (a : Addr) (ns : List Int), xs = [.ref a] ∧ SqL X.G H a (ns.map V.int) ∧ ns.length ≤ 1000 ∧
  ∀ p, H p = none → Q (.ref p) (upd H p (SetO X.w p (fun j => decide (j ∈ ns)) (usort ns).length))
theorem setR_count {w : World} {h : Heap} {a : Addr} {ns : List Int} {c : Nat} (R : SetR w h a (fun j => decide (j ∈ ns)) c) : c = (usort ns).length := by
  obtain ⟨o, es, ep, t, _, _, _, _, nd, hm, _, _, hn, _, _⟩ := R
  have hu : (usort ns).Nodup := (usort_lt ns).imp fun h => by omega
  have hp : (es.toList.map keyOf).Perm (usort ns) := (List.perm_ext_iff_of_nodup nd hu).mpr fun k => by
    rw [← hm k, decide_eq_true_eq, usort_mem]
  have := hp.length_eq
  rw [List.length_map, Array.length_toList] at this
  omega
theorem cr_setL {X : Cx} (hc : X.calm = true) : CallR X (.type "set") (rSetOfL X) := by
  intro pins s σ H vs us Q I r h
  obtain ⟨a, ns, rfl, hs, hz, q⟩ := h
  obtain ⟨its, rv, hl, _⟩ := I.list hs
  rw [Vals.ref1 r]
  refine set_listI ns (I.ok.hd hc) hl.isList (by simpa using rv.ints) (by unfold scanBound; omega) fun h' tk c R hc k => ?_
  have e := setR_count R
  subst e
  exact ⟨.ref _, _, I.laid (t' := tk) k (Nat.le_refl _) (setO_new R), rfl, q _ (I.hok.fresh (Nat.le_refl _))⟩
def obI (o : Option (List Int)) (Q : List Int → Prop) : Prop := match o with
  | some d => Q d
  | none => False
theorem obI_mono {o : Option (List Int)} {P Q : List Int → Prop} (h : ∀ d, P d → Q d) (k : obI o P) : obI o Q := by
  cases o with
  | none => exact k
  | some d => exact h _ k
/-- the ints of a list -/
def lsI : D → Option (List Int)
  | .list xs => intsOf xs
  | _ => none
theorem lsI_l (ns : List Int) : lsI (.list (dInts ns)) = some ns := intsOf_map ns
def sSrtSet (m : SE) : SL := fun env Q => m env fun d => obI (lsI d) fun ns => (ns.length ≤ 1000 ∧ (usort ns).length < 64) ∧ Q (dInts (usort ns))
section
variable {X : Cx} {b b' : Bool} {a c e o : Expr} {ma mc me : SE} {pos apos cpos npos : Pos}
theorem lsI_eq {d : D} {ns : List Int} (h : lsI d = some ns) : d = .list (dInts ns) := by
  cases d with
  | list xs => rw [intsOf_eq h]; rfl
  | _ => cases h
theorem mf_srtSet {p p2 pos2 : Pos} (hc : X.calm = true) (hg : Gl X "sorted") (hm : X.mg "sorted" = none) (hg2 : Gl X "set") (hm2 : X.mg "set" = none) (ha : ME X true a ma) (he : starEach [a] X.env = (false, eval a X.env) :: starEach [] X.env := by rfl) (hpl : (backTo pos2 (starEach [] X.env)).any (·.1) = false := by rfl)
    (he2 : starEach [Expr.Call (.Name "set" p2) [a] [] pos2] X.env = (false, eval (Expr.Call (.Name "set" p2) [a] [] pos2) X.env) :: starEach [] X.env := by rfl) (hpl2 : (backTo pos (starEach [] X.env)).any (·.1) = false := by rfl) :
    MF X (.Call (.Name "sorted" p) [.Call (.Name "set" p2) [a] [] pos2] [] pos) (sSrtSet ma) := by
  have p1 := pe_callTy (p := p2) (pos := pos2) (cr_setL hc) hg2 hm2 (by decide +kernel) (pa_cons ha.run pa_nil he) (by decide) (by decide) he hpl
  refine ⟨⟨fun pins s σ H Q I hq => (pe_callB (cr_sortedSet hc) hg hm (by decide +kernel) (pa_cons p1 pa_nil he2) (by decide) (by decide) he2 hpl2).run pins s σ H Q I ?_⟩, fun env P Q k hp => ha.mono _ _ _ (fun d h1 => obI_mono (fun ns h => ⟨h.1, k _ h.2⟩) h1) hp⟩
  obtain ⟨y, dr, F, env, re, hm⟩ := hq
  refine ⟨y, dr, F, env, re, ha.mono _ _ _ (fun d1 h1 v1 H1 F1 r1 s1 w1 => ?_) hm⟩
  cases q : lsI d1 with
  | none => rw [q] at h1; exact h1.elim
  | some ns =>
    rw [q] at h1
    obtain ⟨hl, h1⟩ := h1
    have e := lsI_eq q
    subst e
    obtain ⟨a1, vs, rfl, e1, z1, rv⟩ := w1.list r1
    rw [rv.ints] at e1
    refine ⟨a1, ns, rfl, SqL.of e1, hl.1, fun p hp => ?_⟩
    refine ⟨p, _, _, rfl, upd_same, hl.2, fun ns' p' o1 o2 o3 hp' => ?_⟩
    have e2 : ns' = usort ns := lt_uniq o1 (usort_lt ns) fun k => by rw [o2, usort_mem]; simp
    subst e2
    have hz : (dInts (usort ns)).length ≤ sizeLine := by
      have := usort_len ns
      rw [dInts_len, sizeLine_eq]; omega
    exact new_lst (r1.grown hp) (s1.trans (Ex.grown hp)) hp' (Rvs.ofInts _) hz h1
@[simp] theorem u_sSrtSet {m : SE} {env : En} {Q : List D → Prop} : sSrtSet m env Q = (m env fun d => obI (lsI d) fun ns => (ns.length ≤ 1000 ∧ (usort ns).length < 64) ∧ Q (dInts (usort ns))) := rfl
@[simp] theorem obI_s {ns : List Int} {Q : List Int → Prop} : obI (some ns) Q = Q ns := rfl
end
end Mi

namespace Mi
open PySem PySem.Spec L2
/-! ### dicts of ints and texts, as data -/
def keyOf : D → Option Key
  | .int i => some (.inl i)
  | .str s => some (.inr s)
  | _ => none
theorem keyOf_kD (k : Key) : keyOf (kD k) = some k := by cases k <;> rfl
theorem keyOf_eq {d : D} {k : Key} (h : keyOf d = some k) : d = kD k := by
  cases d with
  | int i => cases h; rfl
  | str i => cases h; rfl
  | _ => cases h
theorem kD_inj {k k' : Key} (h : kD k = kD k') : k = k' := by
  have := congrArg keyOf h
  rw [keyOf_kD, keyOf_kD] at this
  exact Option.some.inj this
def asKs : List (D × D) → Option (List (Key × D))
  | [] => some []
  | (k, d) :: r => (keyOf k).bind fun k => (asKs r).map fun l => (k, d) :: l
/-- a locked dict's mark -/
def unmk : List (D × D) → List (D × D)
  | (.bool true, .none) :: r => r
  | r => r
def asK : D → Option (List (Key × D))
  | .dict kvs => asKs (unmk kvs)
  | _ => none
theorem unmk_kd : ∀ kvs : List (Key × D), unmk (kdD kvs) = kdD kvs
  | [] => rfl
  | (.inl _, _) :: _ => rfl
  | (.inr _, _) :: _ => rfl
theorem unmk_rks {K : Fg} {F : Hp} {kvs : List (D × D)} {kws : List (Key × V)} (r : Rks K F kvs kws) : unmk kvs = kvs := by
  cases r with
  | nil => rfl
  | cons a b => rename_i k d ds v vs; cases k <;> rfl
theorem asKs_kd : ∀ (kvs : List (Key × D)), asKs (kdD kvs) = some kvs
  | [] => rfl
  | (k, d) :: r => by
    show (keyOf (kD k)).bind _ = _
    rw [keyOf_kD]
    show (asKs (kdD r)).map _ = _
    rw [asKs_kd r]; rfl
@[simp] theorem asK_kd (kvs : List (Key × D)) : asK (.dict (kdD kvs)) = some kvs := by
  show asKs (unmk (kdD kvs)) = _
  rw [unmk_kd, asKs_kd]
@[simp] theorem asK_lk (kvs : List (Key × D)) : asK (.dict ((.bool true, .none) :: kdD kvs)) = some kvs := asKs_kd kvs
theorem asKs_eq : ∀ {xs : List (D × D)} {kvs : List (Key × D)}, asKs xs = some kvs → xs = kdD kvs
  | [], kvs, h => by cases h; rfl
  | (k, d) :: r, kvs, h => by
    have h : (keyOf k).bind (fun k => (asKs r).map fun l => (k, d) :: l) = some kvs := h
    cases q : keyOf k with
    | none => rw [q] at h; cases h
    | some k' =>
      rw [q] at h
      have h : (asKs r).map (fun l => (k', d) :: l) = some kvs := h
      cases q2 : asKs r with
      | none => rw [q2] at h; cases h
      | some l =>
        rw [q2] at h; cases h
        rw [asKs_eq q2, keyOf_eq q]; rfl
theorem asKs_mark {r : List (D × D)} : asKs ((.none, .none) :: r) = none := rfl
def getG {β : Type} (kvs : List (Key × β)) (k : Key) : Option β := (kvs.find? fun p => decide (p.1 = k)).map (·.2)
def putG {β : Type} (kvs : List (Key × β)) (k : Key) (v : β) : List (Key × β) :=
  if (kvs.any fun p => decide (p.1 = k)) = true then kvs.map (fun p => if p.1 = k then (p.1, v) else p) else kvs ++ [(k, v)]
theorem rks_inv {K : Fg} {F : Hp} {x d : D} {ds : List (D × D)} {kws : List (Key × V)} (h : Rks K F ((x, d) :: ds) kws) : ∃ k v vs, x = kD k ∧ kws = (k, v) :: vs ∧ Rv K F d v ∧ Rks K F ds vs := by
  cases h with
  | cons a b => exact ⟨_, _, _, rfl, rfl, a, b⟩
theorem rks_len {K : Fg} {F : Hp} : ∀ {kvs : List (Key × D)} {kws : List (Key × V)}, Rks K F (kdD kvs) kws → kws.length = kvs.length
  | [], kws, h => by cases h; rfl
  | (k, d) :: r, kws, h => by
    obtain ⟨k', v, vs, e, rfl, a, b⟩ := rks_inv h
    simp only [List.length_cons, rks_len b]
theorem rks_keys {K : Fg} {F : Hp} : ∀ {kvs : List (Key × D)} {kws : List (Key × V)}, Rks K F (kdD kvs) kws → kws.map (·.1) = kvs.map (·.1)
  | [], kws, h => by cases h; rfl
  | (k, d) :: r, kws, h => by
    obtain ⟨k', v, vs, e, rfl, a, b⟩ := rks_inv h
    rw [List.map_cons, List.map_cons, rks_keys b, kD_inj e]
theorem rks_get {K : Fg} {F : Hp} (k : Key) : ∀ {kvs : List (Key × D)} {kws : List (Key × V)}, Rks K F (kdD kvs) kws → (∃ d v, getG kvs k = some d ∧ valV kws k = some v ∧ Rv K F d v) ∨ (getG kvs k = none ∧ valV kws k = none)
  | [], kws, h => by cases h; exact .inr ⟨rfl, rfl⟩
  | (k0, d) :: r, kws, h => by
    obtain ⟨k', v, vs, e, rfl, a, b⟩ := rks_inv h
    have e := kD_inj e
    subst e
    by_cases c : k0 = k
    · refine .inl ⟨d, v, ?_, ?_, a⟩
      · simp [getG, c]
      · simp [valV, c]
    · rcases rks_get k b with ⟨d', v', h1, h2, h3⟩ | ⟨h1, h2⟩
      · refine .inl ⟨d', v', ?_, ?_, h3⟩
        · simpa [getG, c] using h1
        · simpa [valV, c] using h2
      · refine .inr ⟨?_, ?_⟩
        · simpa [getG, c] using h1
        · simpa [valV, c] using h2
theorem rks_any {K : Fg} {F : Hp} (k : Key) : ∀ {kvs : List (Key × D)} {kws : List (Key × V)}, Rks K F (kdD kvs) kws → (kws.any fun p => decide (p.1 = k)) = kvs.any fun p => decide (p.1 = k)
  | [], kws, h => by cases h; rfl
  | (k0, d) :: r, kws, h => by
    obtain ⟨k', v, vs, e, rfl, a, b⟩ := rks_inv h
    have e := kD_inj e
    subst e
    rw [List.any_cons, List.any_cons, rks_any k b]
theorem rks_map {K : Fg} {F : Hp} (k : Key) {d : D} {v : V} (rv : Rv K F d v) : ∀ {kvs : List (Key × D)} {kws : List (Key × V)}, Rks K F (kdD kvs) kws → Rks K F (kdD (kvs.map fun p => if p.1 = k then (p.1, d) else p)) (kws.map fun p => if p.1 = k then (p.1, v) else p)
  | [], kws, h => by cases h; exact .nil
  | (k0, d0) :: r, kws, h => by
    obtain ⟨k', v', vs, e, rfl, a, b⟩ := rks_inv h
    have e := kD_inj e
    subst e
    rw [List.map_cons, List.map_cons]
    by_cases c : k0 = k
    · rw [if_pos c, if_pos c]; exact .cons rv (rks_map k rv b)
    · rw [if_neg c, if_neg c]; exact .cons a (rks_map k rv b)
theorem rks_app {K : Fg} {F : Hp} (k : Key) {d : D} {v : V} (rv : Rv K F d v) : ∀ {kvs : List (Key × D)} {kws : List (Key × V)}, Rks K F (kdD kvs) kws → Rks K F (kdD (kvs ++ [(k, d)])) (kws ++ [(k, v)])
  | [], kws, h => by cases h; exact .cons rv .nil
  | (k0, d0) :: r, kws, h => by
    obtain ⟨k', v', vs, e, rfl, a, b⟩ := rks_inv h
    have e := kD_inj e
    subst e
    exact .cons a (rks_app k rv b)
theorem rks_put {K : Fg} {F : Hp} {k : Key} {d : D} {v : V} (rv : Rv K F d v) {kvs : List (Key × D)} {kws : List (Key × V)} (h : Rks K F (kdD kvs) kws) : Rks K F (kdD (putG kvs k d)) (putK kws k v) := by
  unfold putG putK
  rw [rks_any k h]
  split
  · exact rks_map k rv h
  · exact rks_app k rv h
theorem keyV (k : Key) {K : Fg} {b : Bool} {F : Hp} {env : En} {σ : L2.St} {d : D} {v : V} (h : keyOf d = some k) (w : Vr K b F env σ d v) : v = kV k := by
  cases d with
  | int i => cases h; exact w.int
  | str s => cases h; exact w.str.1
  | _ => cases h
section
variable {X : Cx} {b : Bool} {K : Fg} {y : Cy} {dr : Option Addr} {F H : Hp} {env : En} {σ : L2.St}
theorem Vr.asK (re : Re K y dr F env σ H) {d : D} {kvs : List (Key × D)} {v : V} (w : Vr K b F env σ d v) (h : asK d = some kvs) : ∃ a kws, v = .ref a ∧ Rd H a (.dK kws) ∧ Rks K F (kdD kvs) kws := by
  rcases w with w | ⟨_, i, s, e1, e2, e3⟩
  · cases w with
    | dic q r =>
      have h : asKs (unmk _) = some kvs := h
      rw [unmk_rks r] at h
      rw [asKs_eq h] at r; exact ⟨_, _, rfl, rd_mono re.rf.sub q, r⟩
    | dil q r =>
      rename_i kvs2 _
      have h : asKs kvs2 = some kvs := h
      rw [asKs_eq h] at r; exact ⟨_, _, rfl, .inr ⟨_, re.rf.sub _ _ q⟩, r⟩
    | dit q r => cases h
    | _ => cases h
  · obtain ⟨o, q1, q2⟩ := re.get e1
    cases s with
    | k zs =>
      cases e2
      obtain ⟨a, kws, h1, h2, h3, _⟩ := q2
      rw [e3] at q1; cases q1
      cases h1
      have : zs = kvs := by
        have h : asKs (unmk (kdD zs)) = some kvs := h
        rw [unmk_kd, asKs_kd] at h
        exact Option.some.inj h
      subst this
      exact ⟨a, kws, rfl, .inl h2, h3⟩
    | t zs => cases e2; cases h
    | l zs => cases e2; cases h
    | _ => cases e2
/-- an own object is changed in place -/
theorem Re.setO (re : Re K y dr F env σ H) {i : Nat} {s s' : Sl} {p : Addr} {ob : HO} (h1 : env[i]? = some s) (w0 : s.own = true) (w1 : s'.own = true) (h2 : σ[i]? = some (some (.ref p)))
    (hs : F p = none → y.H0 p = none → some p ≠ dr → SlOk K y dr F (upd H p ob) (some (.ref p)) s') : Re K y dr F (env.set i s') σ (upd H p ob) := by
  obtain ⟨a, e1, _, e3, e4, e5⟩ := (re.slot i _ _ h1 h2).there w0
  cases e1
  have kp : ∀ b, b ≠ p → upd H p ob b = H b := fun b hb => upd_ne hb
  have hdr : ∀ a, dr = some a → a ≠ p := fun a e z => e5 (by rw [← z]; exact e.symm)
  refine ⟨⟨fun b u e => ?_, re.rf.sup, re.rf.new, fun b u e n => ?_, fun b hb => ?_, fun b hb => ?_, re.rf.drs, re.rf.drn⟩, by rw [List.length_set]; exact re.len, fun j s2 o g1 g2 => ?_, fun j l a s1 s2 g1 g2 o1 o2 g3 g4 => ?_⟩
  · have hb : b ≠ p := fun z => by rw [z, e3] at e; cases e
    rw [kp b hb]; exact re.rf.sub b u e
  · have hb : b ≠ p := fun z => by rw [z, e4] at e; cases e
    rw [kp b hb]; exact re.rf.gr b u e n
  · have hbp : b ≠ p := fun z => by rw [z, e4] at hb; exact hb rfl
    rw [kp b hbp]; exact re.rf.dom b hb
  · obtain ⟨q1, q2⟩ := re.rf.drw b hb
    exact ⟨q1, q2.at (kp b (hdr b hb))⟩
  · rcases own_of_get g1 with ⟨rfl, rfl⟩ | ⟨ne, g1⟩
    · rw [h2] at g2; cases g2
      exact hs e3 e4 e5
    · refine (re.slot j s2 o g1 g2).keep (Same.refl _) fun a ha w => ?_
      obtain ⟨c, w1, _, w3, w4, _⟩ := (re.slot j s2 o g1 g2).there w
      rw [ha] at w1; cases w1
      have : a ≠ p := fun z => by
        subst z
        exact ne (re.sep j i a s2 _ g1 h1 w w0 (by rw [g2, ha]) h2)
      exact ⟨kp a this, w3, w4⟩
  · have back : ∀ {m : Nat} {s2 : Sl}, (env.set i s')[m]? = some s2 → s2.own = true → ∃ s3, env[m]? = some s3 ∧ s3.own = true := fun {m s2} g w => by
      rcases own_of_get g with ⟨rfl, rfl⟩ | ⟨_, g⟩
      · exact ⟨_, h1, w0⟩
      · exact ⟨_, g, w⟩
    obtain ⟨t1, u1, v1⟩ := back g1 o1
    obtain ⟨t2, u2, v2⟩ := back g2 o2
    exact re.sep j l a t1 t2 u1 u2 v1 v2 g3 g4
end
def obK (o : Option (List (Key × D))) (Q : List (Key × D) → Prop) : Prop := match o with
  | some d => Q d
  | none => False
def obY (o : Option Key) (Q : Key → Prop) : Prop := match o with
  | some d => Q d
  | none => False
theorem obK_mono {o : Option (List (Key × D))} {P Q : List (Key × D) → Prop} (h : ∀ d, P d → Q d) (k : obK o P) : obK o Q := by
  cases o with
  | none => exact k
  | some d => exact h _ k
theorem obY_mono {o : Option Key} {P Q : Key → Prop} (h : ∀ d, P d → Q d) (k : obY o P) : obY o Q := by
  cases o with
  | none => exact k
  | some d => exact h _ k
@[simp] theorem obK_s {ns : List (Key × D)} {Q : List (Key × D) → Prop} : obK (some ns) Q = Q ns := rfl
@[simp] theorem obY_s {k : Key} {Q : Key → Prop} : obY (some k) Q = Q k := rfl
@[simp] theorem keyOf_i {i : Int} : keyOf (.int i) = some (.inl i) := rfl
@[simp] theorem keyOf_s {i : Str} : keyOf (.str i) = some (.inr i) := rfl
/-- d[k] -/
def sDix (mo mi : SE) : SE := fun env Q => mo env fun x => obK (asK x) fun kvs => mi env fun z => obY (keyOf z) fun k => ob (getG kvs k) Q
/-- d.get(k, v) -/
def sDget (mo mi mv : SE) : SE := fun env Q => mo env fun x => obK (asK x) fun kvs => mi env fun z => mv env fun u => obY (keyOf z) fun k => Q ((getG kvs k).getD u)
/-- d[k] = v -/
def ownK (env : En) (i : Nat) (P : List (Key × D) → Prop) : Prop := match gv env i with
  | .k kvs => P kvs
  | _ => False
theorem gv_k {env : En} {i : Nat} {kvs : List (Key × D)} (h : gv env i = .k kvs) : env[i]? = some (.k kvs) := gv_some h (by simp)
theorem ownK_some {env : En} {i : Nat} {P : List (Key × D) → Prop} (h : ownK env i P) : ∃ kvs, env[i]? = some (.k kvs) ∧ gv env i = .k kvs ∧ P kvs := by
  unfold ownK at h
  split at h
  · rename_i xs q
    exact ⟨xs, gv_k q, q, h⟩
  · exact h.elim
theorem ownK_mono {env : En} {i : Nat} {P Q : List (Key × D) → Prop} (k : ∀ x, P x → Q x) (h : ownK env i P) : ownK env i Q := by
  obtain ⟨kvs, _, q, p⟩ := ownK_some h
  unfold ownK
  rw [q]
  exact k _ p
def sDput (i : Nat) (mi mv : SE) : SS := fun K env => ownK env i fun kvs => mv env fun d => mi env fun z => obY (keyOf z) fun k => kvs.length < 16777216 ∧ K.nx (env.set i (.k (putG kvs k d)))
/-- d = {} -/
def sDnew (i : Nat) : SS := fun K env => K.nx (env.set i (.k []))
/-- the keys, all ints -/
def keysI : List (Key × D) → Option (List Int)
  | [] => some []
  | (.inl i, _) :: r => (keysI r).map fun l => i :: l
  | _ :: _ => none
theorem keysI_eq : ∀ {kvs : List (Key × D)} {ks : List Int}, keysI kvs = some ks → kvs.map (·.1) = ks.map Sum.inl
  | [], ks, h => by cases h; rfl
  | (.inl i, d) :: r, ks, h => by
    have h : (keysI r).map (fun l => i :: l) = some ks := h
    cases q : keysI r with
    | none => rw [q] at h; cases h
    | some l => rw [q] at h; cases h; rw [List.map_cons, keysI_eq q]; rfl
  | (.inr s, d) :: r, ks, h => by cases h
def sSrtKeys (m : SE) : SL := fun env Q => m env fun x => obK (asK x) fun kvs => obI (keysI kvs) fun ks => ks.length < 64 ∧ Q (dInts (isort ks))
/-- len(d) -/
def sDlen (m : SE) : SE := fun env Q => m env fun x => obK (asK x) fun kvs => Q (.int (kvs.length : Nat))
section
variable {X : Cx} {b b' : Bool} {a c e f o : Expr} {ma mc me mo mi mv : SE} {pos apos cpos npos : Pos}
theorem hu1 (hu : X.A.units + 65 < cLine) : X.A.units + 1 < cLine := by omega
theorem me_dix (hu : X.A.units + 65 < cLine) (ho : ME X true o mo) (hi : ME X true e mi) (hs : NoSl e := by intro _ _; rfl) : ME X b' (.Subscript o e pos) (sDix mo mi) := by
  refine ⟨⟨fun pins s σ H Q I h => (pe_dget (hu1 hu) ho.run hi.run hs).run pins s σ H Q I ?_⟩, fun env P Q k h => ho.mono _ _ _ (fun d hd => obK_mono (fun kvs h1 => hi.mono _ _ _ (fun z hz => obY_mono (fun q h2 => ob_mono k h2) hz) h1) hd) h⟩
  obtain ⟨y, dr, F, env, re, hm⟩ := h
  refine ⟨y, dr, F, env, re, ho.mono _ _ _ (fun d1 h1 v1 H1 F1 r1 s1 w1 => ?_) hm⟩
  cases q : asK d1 with
  | none => rw [q] at h1; exact h1.elim
  | some kvs =>
    rw [q] at h1
    refine ⟨y, dr, F1, env, r1, hi.mono _ _ _ (fun d2 h2 v2 H2 F2 r2 s2 w2 => ?_) h1⟩
    obtain ⟨p, kws, rfl, e1, e2⟩ := (w1.mono s2).asK r2 q
    cases q2 : keyOf d2 with
    | none => rw [q2] at h2; exact h2.elim
    | some k =>
      rw [q2] at h2
      rcases rks_get k e2 with ⟨d, v, g1, g2, g3⟩ | ⟨g1, g2⟩
      · have h2 : ob (getG kvs k) _ := h2
        rw [g1] at h2
        exact ⟨p, v, rfl, .inl ⟨kws, k, e1, keyV k q2 w2, g2.symm⟩, h2 _ H2 F2 r2 (s1.trans s2) (.inl g3)⟩
      · have h2 : ob (getG kvs k) _ := h2
        rw [g1] at h2; exact h2.elim
theorem me_dget (hu : X.A.units + 65 < cLine) (ho : ME X true o mo) (hi : ME X true e mi) (hv : ME X false f mv) (m : M2 X o "get" apos e f cpos := by exact ⟨rfl, rfl, rfl, rfl⟩) :
    ME X b' (.Call (.Attribute o "get" apos) [e, f] [] cpos) (sDget mo mi mv) := by
  refine ⟨⟨fun pins s σ H Q I h => (pe_dget2 (hu1 hu) ho.run hi.run hv.run m).run pins s σ H Q I ?_⟩, fun env P Q k h => ho.mono _ _ _ (fun d hd => obK_mono (fun kvs h1 => hi.mono _ _ _ (fun z hz => hv.mono _ _ _ (fun u hu => obY_mono (fun q h2 => k _ h2) hu) hz) h1) hd) h⟩
  obtain ⟨y, dr, F, env, re, hm⟩ := h
  refine ⟨y, dr, F, env, re, ho.mono _ _ _ (fun d1 h1 v1 H1 F1 r1 s1 w1 => ?_) hm⟩
  cases q : asK d1 with
  | none => rw [q] at h1; exact h1.elim
  | some kvs =>
    rw [q] at h1
    obtain ⟨p, kws0, rfl, e0, _⟩ := w1.asK r1 q
    refine ⟨p, rfl, .inl ⟨_, e0⟩, y, dr, F1, env, r1, hi.mono _ _ _ (fun d2 h2 v2 H2 F2 r2 s2 w2 => ?_) h1⟩
    refine ⟨y, dr, F2, env, r2, hv.mono _ _ _ (fun d3 h3 v3 H3 F3 r3 s3 w3 => ?_) h2⟩
    obtain ⟨p', kws, e', e1, e2⟩ := ((w1.mono s2).mono s3).asK r3 q
    cases e'
    cases q2 : keyOf d2 with
    | none => rw [q2] at h3; exact h3.elim
    | some k =>
      rw [q2] at h3
      have h3 : ∀ v H' F', _ := h3
      rcases rks_get k e2 with ⟨d, v, g1, g2, g3⟩ | ⟨g1, g2⟩
      · rw [g1] at h3
        exact ⟨some v, .inl ⟨kws, k, e1, keyV k q2 w2, g2.symm⟩, h3 _ H3 F3 r3 ((s1.trans s2).trans s3) (.inl g3)⟩
      · rw [g1] at h3
        exact ⟨none, .inl ⟨kws, k, e1, keyV k q2 w2, g2.symm⟩, h3 _ H3 F3 r3 ((s1.trans s2).trans s3) (.inl w3.rv)⟩
theorem ms_dput {i : Nat} {x : Str} {spos : Pos} (hu : X.A.units + 65 < cLine) (hn : PE X (.Name x npos) (tVar i)) (hi : ME X true c mi) (hv : ME X false e mv) (hs : swapsWith e (some (.Subscript (.Name x npos) c spos)) pos.line X.env = pure false := by rfl) :
    MS X (.Assign [.Subscript (.Name x npos) c spos] e pos) (sDput i mi mv) := by
  refine ⟨⟨fun pins s σ H E I h => (ps_dput (hu1 hu) hn hi.run hv.run hs).run pins s σ H E I ?_⟩, fun a c env k h => ownK_mono (fun kvs h1 => hv.mono _ _ _ (fun d hd => hi.mono _ _ _ (fun z hz => obY_mono (fun q h2 => ⟨h2.1, k.nx _ h2.2⟩) hz) hd) h1) h⟩
  obtain ⟨y, dr, F, env, re, hm⟩ := h
  obtain ⟨kvs, q, _, hm⟩ := ownK_some hm
  refine ⟨y, dr, F, env, re, hv.mono _ _ _ (fun d hd v H1 F1 r1 s1 w => ?_) hm⟩
  obtain ⟨o, g1, p, kws, g2, g3, _⟩ := r1.get q
  subst g2
  refine ⟨.ref p, g1, y, dr, F1, env, r1, hi.mono _ _ _ (fun z hz v2 H2 F2 r2 s2 w2 => ?_) hd⟩
  cases q2 : keyOf z with
  | none => rw [q2] at hz; exact hz.elim
  | some k =>
    rw [q2] at hz
    obtain ⟨o', g1', p', kws', g2', g3', g4', g5'⟩ := r2.get q
    rw [g1] at g1'; cases g1'; cases g2'
    have hz : kvs.length < 16777216 ∧ _ := hz
    refine ⟨p, _, rfl, .inl ⟨kws', k, g3', keyV k q2 w2, by rw [rks_len g4', sizeLine_eq]; exact hz.1, rfl⟩, ?_⟩
    refine hz.2 dr F2 σ _ (r2.setO q rfl rfl g1 fun z1 z2 z3 => ⟨p, _, rfl, upd_same, rks_put (w.mono s2).rv g4', z1, z2, z3⟩) (s1.trans s2).f
theorem ms_dnew {i : Nat} {x : Str} {pos' dpos : Pos} (hN : X.N.Nodup) (hi : X.N[i]? = some x) (hx : Loc X.env.scope x) (hs : swapsWith (.Dict [] [] dpos) (some (.Name x pos')) pos.line X.env = pure false := by rfl)
    (hf : X.fn x = true ∨ X.env.scope.names.lookup x = some .local := by first | exact .inl rfl | exact .inr rfl | assumption) : MS X (.Assign [.Name x pos'] (.Dict [] [] dpos) pos) (sDnew i) := by
  refine ⟨⟨fun pins s σ H E I h => (ps_set hN hi hx pe_dnewK hs hf).run pins s σ H E I ?_⟩, fun a c env k h => k.nx _ h⟩
  obtain ⟨y, dr, F, env, re, hm⟩ := h
  intro p hp
  have fr := re.free hp
  exact hm dr F _ _ ((re.grown hp).put ⟨p, [], rfl, upd_same, .nil, fr.nF, fr.nH, fr.nd⟩ fun _ a e j s' _ h1 h2 h3 => by cases e; exact fr.no j s' h1 h2 h3) (Same.refl _)
theorem call_lenRd : CallR X (.builtin "len") (fun xs H Q => ∃ a kvs, xs = [V.ref a] ∧ Rd H a (.dK kvs) ∧ Q (.int (kvs.length : Nat)) H) := by
  intro pins s σ H xs us Q I r h
  obtain ⟨a, kvs, rfl, e, q⟩ := h
  rw [Vals.ref1 r]
  exact d_len I e fun t s' I' => ⟨.int (kvs.length : Nat), H, I', ⟨t, rfl⟩, q⟩
theorem me_dlen {p : Pos} (hg : Gl X "len") (hm : X.mg "len" = none) (ha : ME X true a ma) (he : starEach [a] X.env = (false, eval a X.env) :: starEach [] X.env := by rfl) (hpl : (backTo pos (starEach [] X.env)).any (·.1) = false := by rfl) :
    ME X b' (.Call (.Name "len" p) [a] [] pos) (sDlen ma) := by
  refine ⟨⟨fun pins s σ H Q I hq => (pe_callB call_lenRd hg hm PySem.boot_len (pa_cons ha.run pa_nil he) (by decide) (by decide) he hpl).run pins s σ H Q I ?_⟩, fun env P Q k hp => ha.mono _ _ _ (fun d h1 => obK_mono (fun ns h => k _ h) h1) hp⟩
  obtain ⟨y, dr, F, env, re, hm⟩ := hq
  refine ⟨y, dr, F, env, re, ha.mono _ _ _ (fun d1 h1 v1 H1 F1 r1 s1 w1 => ?_) hm⟩
  cases q : asK d1 with
  | none => rw [q] at h1; exact h1.elim
  | some kvs =>
    rw [q] at h1
    obtain ⟨p', kws, rfl, e1, e2⟩ := w1.asK r1 q
    refine ⟨p', kws, rfl, e1, ?_⟩
    rw [rks_len e2]
    exact h1 _ H1 F1 r1 s1 (.inl (.int _))
theorem mf_srtKeys {p : Pos} (hc : X.calm = true) (hg : Gl X "sorted") (hm : X.mg "sorted" = none) (ha : ME X true a ma) (he : starEach [a] X.env = (false, eval a X.env) :: starEach [] X.env := by rfl) (hpl : (backTo pos (starEach [] X.env)).any (·.1) = false := by rfl) :
    MF X (.Call (.Name "sorted" p) [a] [] pos) (sSrtKeys ma) := by
  refine ⟨⟨fun pins s σ H Q I hq => (pe_callB (call_sortedDI hc) hg hm (by decide +kernel) (pa_cons ha.run pa_nil he) (by decide) (by decide) he hpl).run pins s σ H Q I ?_⟩, fun env P Q k hp => ha.mono _ _ _ (fun d h1 => obK_mono (fun kvs h => obI_mono (fun ns h => ⟨h.1, k _ h.2⟩) h) h1) hp⟩
  obtain ⟨y, dr, F, env, re, hm⟩ := hq
  refine ⟨y, dr, F, env, re, ha.mono _ _ _ (fun d1 h1 v1 H1 F1 r1 s1 w1 => ?_) hm⟩
  cases q : asK d1 with
  | none => rw [q] at h1; exact h1.elim
  | some kvs =>
    rw [q] at h1
    have h1 : obI (keysI kvs) _ := h1
    cases q2 : keysI kvs with
    | none => rw [q2] at h1; exact h1.elim
    | some ks =>
      rw [q2] at h1
      obtain ⟨hl, h1⟩ := h1
      obtain ⟨p', kws, rfl, e1, e2⟩ := w1.asK r1 q
      refine ⟨p', kws, ks, rfl, e1, (rks_keys e2).trans (keysI_eq q2), hl, fun ys p2 o1 o2 hp2 => ?_⟩
      have e : ys = isort ks := List.Perm.eq_of_pairwise (fun a b _ _ h1 h2 => Int.le_antisymm h1 h2) o2 (isort_sorted ks) (o1.trans (isort_perm ks).symm)
      subst e
      have hz : (dInts (isort ks)).length ≤ sizeLine := by rw [dInts_len, isort_len, sizeLine_eq]; omega
      exact new_lst r1 s1 hp2 (Rvs.ofInts _) hz h1
end
def okKs (s : Sl) (P : List (Key × D) → Prop) : Prop := match s with
  | .k xs => P xs
  | _ => False
@[simp] theorem okKs_k {xs : List (Key × D)} {P : List (Key × D) → Prop} : okKs (.k xs) P = P xs := rfl
@[simp] theorem u_ownK {env : En} {i : Nat} {P : List (Key × D) → Prop} : ownK env i P = okKs (gv env i) P := rfl
section
variable {mo mi mv m : SE} {env : En} {Q : D → Prop} {i : Nat} {K : Ks} {P : List D → Prop}
@[simp] theorem u_sDix : sDix mo mi env Q = (mo env fun x => obK (asK x) fun kvs => mi env fun z => obY (keyOf z) fun k => ob (getG kvs k) Q) := rfl
@[simp] theorem u_sDget : sDget mo mi mv env Q = (mo env fun x => obK (asK x) fun kvs => mi env fun z => mv env fun u => obY (keyOf z) fun k => Q ((getG kvs k).getD u)) := rfl
@[simp] theorem u_sDput : sDput i mi mv K env = (ownK env i fun kvs => mv env fun d => mi env fun z => obY (keyOf z) fun k => kvs.length < 16777216 ∧ K.nx (env.set i (.k (putG kvs k d)))) := rfl
@[simp] theorem u_sDnew : sDnew i K env = K.nx (env.set i (.k [])) := rfl
@[simp] theorem u_sSrtKeys : sSrtKeys m env P = (m env fun x => obK (asK x) fun kvs => obI (keysI kvs) fun ks => ks.length < 64 ∧ P (dInts (isort ks))) := rfl
@[simp] theorem u_sDlen : sDlen m env Q = (m env fun x => obK (asK x) fun kvs => Q (.int (kvs.length : Nat))) := rfl
end
/-! counts by ints -/
def kI (kvs : List (Int × Int)) : List (Key × D) := kvs.map fun p => (.inl p.1, .int p.2)
end Mi

namespace Mi
open PySem PySem.Spec L2
/-! ### xs.count(v) -/
def rCountD (K : Fg) : V → List V → Hp → VK → Prop := fun x xs H Q => ∃ (a : Addr) (y : V) (d : D) (ds : List D), x = V.ref a ∧ xs = [y] ∧ Dp K H (V.ref a) (.list ds) ∧ Dp K H y d ∧
  SeqAt.shaped (.list ds) = true ∧ SeqAt.shaped d = true ∧ Q (.int ((ds.countP fun z => PyData.eqv z d : Nat) : Int)) H
theorem mt_countD {X : Cx} (hu : X.A.units + 65 < cLine) : MtR X "list.count" (rCountD X.G) := by
  intro pins s σ H x xs v us Q I rx rxs h
  obtain ⟨a, y, d, ds, rfl, rfl, hl, hy, sl, sd, q⟩ := h
  cases rx
  cases rxs with
  | cons ry rt =>
    rename_i uy ut
    cases rt
    obtain ⟨bs, r1⟩ := Dp.reads I d y uy hy ry
    have c1 : PyData.canLayAll0 ds = true := SeqAt.canLay_of_shaped sl
    have c2 : X.A.units + 1 + min (PyData.depthAll ds) d.depth < cLine := PyProof.Rows.room_in_shaped sd hu
    cases hl with
    | lst hs ha =>
      obtain ⟨its, rv, ⟨⟨cls, dd, data, sls⟩, n, ho, hc, hdn, hdt⟩, hlen⟩ := I.list hs
      simp only at hc hdt
      subst hc
      subst hdt
      obtain ⟨as, h4⟩ := Dp.readsAll I ds _ its ha rv
      have c3 : its.map (SeqAt.readOf s.heap) = ds := SeqAt.readsAll_map ds its as c1 h4
      refine call_meets PySem.F.slot_list_count ⟨_, ho, rfl⟩ PySem.F.entry_list_count (PySem.F.args_list_count_2 _ _)
        (SeqAt.list_countAt a its.toArray n dd sls uy fun u => PyData.eqv (SeqAt.readOf s.heap u) d) ⟨ho, SeqAt.items_eqAt (vs := its.toArray) (show ReadsAll s.heap its.toArray.toList ds as from h4) r1 c1 (SeqAt.canLay_of_shaped sd) c2, ?_⟩
      have e : its.toArray.toList.countP (fun u => PyData.eqv (SeqAt.readOf s.heap u) d) = ds.countP fun z => PyData.eqv z d := by
        rw [← c3, List.countP_map]
        rfl
      refine ⟨.int ((ds.countP fun z => PyData.eqv z d : Nat) : Int), H, I.tok _, ⟨s.toks, ?_⟩, q⟩
      show Value.int ((its.toArray.toList.countP (fun u => PyData.eqv (SeqAt.readOf s.heap u) d) : Nat) : Int) s.toks = _
      rw [e]
def cntL (ds : List D) (d : D) : Option D := if SeqAt.shaped (.list ds) = true ∧ SeqAt.shaped d = true then some (.int ((ds.countP fun z => PyData.eqv z d : Nat) : Int)) else none
def sCnt' (ma mc : SE) : SE := fun env Q => ma env fun x => match x with
  | .list ds => mc env fun z => ob (cntL ds z) Q
  | _ => False
section
variable {X : Cx} {b b' : Bool} {a c e o : Expr} {ma mc me : SE} {pos apos cpos npos : Pos}
theorem me_cnt (hu : X.A.units + 65 < cLine) (ha : ME X true a ma) (hc : ME X true c mc)
    (hbase : attributeBase a "count" X.env (eval a X.env) = eval a X.env := by rfl)
    (hfew : ((backTo cpos (starEach [c] X.env)).all (fun x => !x.1) && (backToKw cpos (keywordEach [] X.env)).all (fun x => x.1.isSome)
      && decide ([c].length + ([] : List Keyword).length + (if ([] : List Keyword).isEmpty then 0 else 1) < 30)) = true := by rfl)
    (hline : (apos.endLine == cpos.line) = true := by rfl) (hs : starEach [c] X.env = (false, eval c X.env) :: starEach [] X.env := by rfl) (hplain : (backTo cpos (starEach [] X.env)).any (·.1) = false := by rfl) :
    ME X b' (.Call (.Attribute a "count" apos) [c] [] cpos) (sCnt' ma mc) := by
  refine ⟨⟨fun pins s σ H Q I h => (pe_bm PySem.F.plainAttrs_list PySem.F.slot_list_count PySem.F.type_list_count (mt_countD hu) ha.run (pa_cons hc.run pa_nil hs) hbase hfew hline hs hplain).run pins s σ H Q I ?_⟩,
    fun env P Q k h => ha.mono _ _ _ (fun d hd => by cases d <;> first | exact hc.mono _ _ _ (fun _ h2 => ob_mono k h2) hd | exact hd) h⟩
  obtain ⟨y, dr, F, env, re, hm⟩ := h
  refine ⟨y, dr, F, env, re, ha.mono _ _ _ (fun d hd v H1 F1 r1 s1 w1 => ?_) hm⟩
  cases d with
  | list ds =>
    obtain ⟨p, vs, rfl, h1, z1, rv⟩ := w1.list r1
    refine ⟨.inl ⟨rfl, _, SqL.of h1⟩, y, dr, F1, env, r1, hc.mono _ _ _ (fun d2 h2 v2 H2 F2 r2 s2 w2 => ?_) hd⟩
    unfold cntL at h2
    by_cases c1 : SeqAt.shaped (.list ds) = true ∧ SeqAt.shaped d2 = true
    · rw [if_pos c1] at h2
      have dl := (w1.mono s2).dp r2 (lay_shaped c1.1)
      have dv := w2.dp r2 (lay_shaped c1.2)
      exact ⟨p, v2, d2, ds, rfl, rfl, dl, dv, c1.1, c1.2, h2 _ H2 F2 r2 (s1.trans s2) (.inl (.int _))⟩
    · rw [if_neg c1] at h2; exact h2.elim
  | _ => exact hd.elim
@[simp] theorem u_sCntt {env : En} {Q : D → Prop} : sCnt' ma mc env Q = (ma env fun x => match x with | .list ds => mc env fun z => ob (cntL ds z) Q | _ => False) := rfl
theorem cnt_ints {xs : List Int} {a : Int} : cntL (dInts xs) (.int a) = some (.int ((xs.count a : Nat) : Int)) := by
  unfold cntL
  rw [if_pos ⟨shaped_lI xs, rfl⟩]
  have : (dInts xs).countP (fun z => PyData.eqv z (.int a)) = xs.count a := by
    unfold dInts
    rw [List.countP_map]
    rfl
  rw [this]
end
end Mi

namespace Mi
open PySem PySem.Spec L2
/-! ### plain helpers: any, all; dicts -/
theorem any_map {α : Type} (xs : List α) (p : α → Bool) : anyD (.list (xs.map fun x => PyData.bool (p x))) = some (.bool (xs.any p)) := by
  have e : xs.map (fun x => PyData.bool (p x)) = (xs.map p).map PyData.bool := by rw [List.map_map]; rfl
  unfold anyD
  show (boolsOf _).map _ = _
  rw [e, boolsOf_map]
  show some (PyData.bool ((xs.map p).any id)) = _
  rw [List.any_map]
  rfl
theorem all_map {α : Type} (xs : List α) (p : α → Bool) : allD (.list (xs.map fun x => PyData.bool (p x))) = some (.bool (xs.all p)) := by
  have e : xs.map (fun x => PyData.bool (p x)) = (xs.map p).map PyData.bool := by rw [List.map_map]; rfl
  unfold allD
  show (boolsOf _).map _ = _
  rw [e, boolsOf_map]
  show some (PyData.bool ((xs.map p).all id)) = _
  rw [List.all_map]
  rfl
theorem getG_put {β : Type} (k k' : Key) (v : β) : ∀ kvs : List (Key × β), getG (putG kvs k v) k' = if k = k' then some v else getG kvs k' := by
  have hmap : ∀ kvs : List (Key × β), (kvs.any fun p => decide (p.1 = k)) = true → getG (kvs.map fun p => if p.1 = k then (p.1, v) else p) k' = if k = k' then some v else getG kvs k' := by
    intro kvs
    induction kvs with
    | nil => intro h; cases h
    | cons p r ih =>
      intro h
      rw [List.map_cons]
      by_cases c : p.1 = k
      · rw [if_pos c]
        by_cases c2 : k = k'
        · simp [getG, c, c2]
        · have c3 : ¬ p.1 = k' := fun z => c2 (c.symm.trans z)
          rw [if_neg c2]
          have e1 : getG (p :: r) k' = getG r k' := by simp [getG, c3]
          have e2 : getG ((p.1, v) :: r.map fun p => if p.1 = k then (p.1, v) else p) k' = getG (r.map fun p => if p.1 = k then (p.1, v) else p) k' := by simp [getG, c3]
          rw [e1, e2]
          by_cases c4 : (r.any fun p => decide (p.1 = k)) = true
          · rw [ih c4, if_neg c2]
          · have : r.map (fun p => if p.1 = k then (p.1, v) else p) = r := by
              rw [List.map_congr_left (g := id), List.map_id]
              intro q hq
              have : ¬ q.1 = k := fun z => c4 (List.any_eq_true.mpr ⟨q, hq, by simp [z]⟩)
              simp [this]
            rw [this]
      · rw [if_neg c]
        have h2 : (r.any fun p => decide (p.1 = k)) = true := by simpa [c] using h
        by_cases c3 : p.1 = k'
        · have c2 : ¬ k = k' := fun z => c (c3.trans z.symm)
          rw [if_neg c2]
          simp [getG, c3]
        · have e1 : getG (p :: r) k' = getG r k' := by simp [getG, c3]
          have e2 : getG (p :: r.map fun p => if p.1 = k then (p.1, v) else p) k' = getG (r.map fun p => if p.1 = k then (p.1, v) else p) k' := by simp [getG, c3]
          rw [e1, e2, ih h2]
  intro kvs
  unfold putG
  by_cases c : (kvs.any fun p => decide (p.1 = k)) = true
  · rw [if_pos c]; exact hmap kvs c
  · rw [if_neg c]
    by_cases c2 : k = k'
    · subst c2
      rw [if_pos rfl]
      have : kvs.find? (fun p => decide (p.1 = k)) = none := by
        rw [List.find?_eq_none]
        intro q hq z
        exact c (List.any_eq_true.mpr ⟨q, hq, z⟩)
      unfold getG
      rw [List.find?_append, this]
      simp
    · rw [if_neg c2]
      unfold getG
      rw [List.find?_append]
      cases h : kvs.find? fun p => decide (p.1 = k') with
      | none => simp [c2]
      | some q => simp
theorem keysI_app {kvs : List (Key × D)} {ks : List Int} (h : keysI kvs = some ks) (x : Int) (v : D) : keysI (kvs ++ [(.inl x, v)]) = some (ks ++ [x]) := by
  induction kvs generalizing ks with
  | nil => cases h; rfl
  | cons p r ih =>
    obtain ⟨k, d⟩ := p
    cases k with
    | inr s => cases h
    | inl i =>
      have h : (keysI r).map (fun l => i :: l) = some ks := h
      cases q : keysI r with
      | none => rw [q] at h; cases h
      | some l =>
        rw [q] at h; cases h
        show (keysI (r ++ [(.inl x, v)])).map _ = _
        rw [ih q]; rfl
theorem keysI_map {kvs : List (Key × D)} {k : Key} {v : D} : keysI (kvs.map fun p => if p.1 = k then (p.1, v) else p) = keysI kvs := by
  induction kvs with
  | nil => rfl
  | cons p r ih =>
    obtain ⟨k0, d⟩ := p
    rw [List.map_cons]
    have e : (if (k0, d).1 = k then ((k0, d).1, v) else (k0, d)) = (k0, if k0 = k then v else d) := by split <;> simp_all
    rw [e]
    cases k0 with
    | inr s => rfl
    | inl i =>
      show (keysI _).map _ = (keysI r).map _
      rw [ih]
theorem keysI_any {kvs : List (Key × D)} {ks : List Int} (h : keysI kvs = some ks) (x : Int) : (kvs.any fun p => decide (p.1 = .inl x)) = decide (x ∈ ks) := by
  induction kvs generalizing ks with
  | nil => cases h; rfl
  | cons p r ih =>
    obtain ⟨k, d⟩ := p
    cases k with
    | inr s => cases h
    | inl i =>
      have h : (keysI r).map (fun l => i :: l) = some ks := h
      cases q : keysI r with
      | none => rw [q] at h; cases h
      | some l =>
        rw [q] at h; cases h
        rw [List.any_cons, ih q]
        by_cases c : i = x
        · subst c; simp
        · have c' : ¬ x = i := fun z => c z.symm
          have c2 : ¬ ((Sum.inl i : Key) = .inl x) := fun z => c (Sum.inl.inj z)
          simp [c', c2]
theorem keysI_put {kvs : List (Key × D)} {ks : List Int} (h : keysI kvs = some ks) (x : Int) (v : D) : keysI (putG kvs (.inl x) v) = some (if x ∈ ks then ks else ks ++ [x]) := by
  unfold putG
  rw [keysI_any h x]
  by_cases c : x ∈ ks
  · rw [if_pos (by simpa using c), if_pos c, keysI_map, h]
  · rw [if_neg (by simpa using c), if_neg c, keysI_app h]
theorem keysI_len {kvs : List (Key × D)} {ks : List Int} (h : keysI kvs = some ks) : kvs.length = ks.length := by
  have := congrArg List.length (keysI_eq h)
  simpa using this
/-- a dict of the row's members: at each what f tells of the row -/
structure DOf (f : Int → List Int → D) (kvs : List (Key × D)) (L : List Int) : Prop where
  ks : ∃ ks, keysI kvs = some ks ∧ ks.Nodup ∧ ∀ x, x ∈ ks ↔ x ∈ L
  at_ : ∀ x, getG kvs (.inl x) = if x ∈ L then some (f x L) else none
theorem DOf.nil {f : Int → List Int → D} : DOf f [] [] := ⟨⟨[], rfl, .nil, fun x => Iff.rfl⟩, fun x => rfl⟩
theorem DOf.put {f : Int → List Int → D} {kvs : List (Key × D)} {L : List Int} (h : DOf f kvs L) {x : Int} {v : D} (hv : v = f x (L ++ [x])) (hf : ∀ y, y ≠ x → f y (L ++ [x]) = f y L) : DOf f (putG kvs (.inl x) v) (L ++ [x]) := by
  obtain ⟨⟨ks, h1, h2, h3⟩, h4⟩ := h
  refine ⟨⟨_, keysI_put h1 x v, ?_, fun y => ?_⟩, fun y => ?_⟩
  · split
    · exact h2
    · rename_i c
      rw [List.nodup_append]
      refine ⟨h2, by simp, fun a ha b hb => ?_⟩
      have : b = x := by simpa using hb
      subst this
      exact fun z => c (z ▸ ha)
  · split
    · rename_i c
      rw [h3, List.mem_append, List.mem_singleton]
      exact ⟨.inl, fun z => z.elim id fun e => e ▸ (h3 x).mp c⟩
    · rw [List.mem_append, List.mem_append, h3]
  · rw [getG_put, h4]
    by_cases c : x = y
    · subst c
      rw [if_pos rfl, if_pos (by simp), hv]
    · have c2 : ¬ (Sum.inl x : Key) = .inl y := fun z => c (Sum.inl.inj z)
      have c3 : ¬ y = x := fun z => c z.symm
      rw [if_neg c2]
      by_cases c4 : y ∈ L
      · rw [if_pos c4, if_pos (by simp [c4]), hf y c3]
      · rw [if_neg c4, if_neg (by simp [c4, c3])]
theorem DOf.sorted {f : Int → List Int → D} {kvs : List (Key × D)} {L : List Int} (h : DOf f kvs L) : ∃ ks, keysI kvs = some ks ∧ ks.length ≤ L.length ∧ isort ks = usort L ∧ kvs.length = (usort L).length := by
  obtain ⟨⟨ks, h1, h2, h3⟩, h4⟩ := h
  have e : isort ks = usort L := lt_uniq (lt_of_le_nd (isort_sorted _) ((isort_perm ks).nodup_iff.mpr h2)) (usort_lt L) fun a => by rw [isort_mem, h3, usort_mem]
  have hl : ks.length = (usort L).length := by rw [← e, isort_len]
  exact ⟨ks, h1, by rw [hl]; exact usort_len L, e, by rw [keysI_len h1, hl]⟩
/-- counts -/
def cntF (x : Int) (L : List Int) : D := .int ((L.count x : Nat) : Int)
theorem DOf.count {kvs : List (Key × D)} {L : List Int} (h : DOf cntF kvs L) {x : Int} : ∃ c : Int, (getG kvs (.inl x)).getD (.int 0) = .int c ∧ DOf cntF (putG kvs (.inl x) (.int (c + 1))) (L ++ [x]) := by
  refine ⟨((L.count x : Nat) : Int), ?_, h.put (v := .int (((L.count x : Nat) : Int) + 1)) ?_ fun y hy => ?_⟩
  · rw [h.at_]
    by_cases c : x ∈ L
    · rw [if_pos c]; rfl
    · rw [if_neg c, List.count_eq_zero_of_not_mem c]; rfl
  · unfold cntF
    rw [List.count_append]
    simp
  · unfold cntF
    rw [List.count_append, List.count_singleton]
    have : ¬ x = y := fun z => hy z.symm
    simp [this]
end Mi

namespace Mi
open PySem PySem.Spec L2
/-! ### sorted rows of pairs and of triples of ints -/
abbrev P2 := Int × Int
abbrev P3 := Int × Int × Int
def d2 (p : P2) : D := .tuple [.int p.1, .int p.2]
def d3 (p : P3) : D := .tuple [.int p.1, .int p.2.1, .int p.2.2]
def le2 (p q : P2) : Bool := decide (p.1 < q.1 ∨ (p.1 = q.1 ∧ p.2 ≤ q.2))
def le3 (p q : P3) : Bool := decide (p.1 < q.1 ∨ (p.1 = q.1 ∧ (p.2.1 < q.2.1 ∨ (p.2.1 = q.2.1 ∧ p.2.2 ≤ q.2.2))))
theorem leD_2 (p q : P2) : leD' (d2 p) (d2 q) = le2 p q := congrFun (congrFun (PySem.W.dataLe_ii (β := P2) (fun b => b.1) fun b => b.2) p) q
theorem lt_3 (a b c a' b' c' : Int) : PySem.W.dataLt (.tuple [.int a, .int b, .int c]) (.tuple [.int a', .int b', .int c']) = decide (a < a' ∨ (a = a' ∧ (b < b' ∨ (b = b' ∧ c < c')))) := by
  have al : ∀ x y : Int, PySem.W.alike (.int x) (.int y) = true := fun x y => by simp [PySem.W.alike]
  have ev : ∀ x y : Int, PyData.eqv (.int x) (.int y) = decide (x = y) := fun x y => by
    show (x == y) = _
    by_cases c : x = y <;> simp [c]
  rw [PySem.W.dataLt_tuple, PySem.W.dataLt_cons (al a a'), PySem.W.dataLt_cons (al b b'), PySem.W.dataLt_cons (al c c'), ev, ev, ev, PySem.W.dataLt_int, PySem.W.dataLt_int, PySem.W.dataLt_int]
  have e : PyProof.Rows.lexLt PyProof.Rows.itemOrd (PySem.W.keyToksAll []) (PySem.W.keyToksAll []) = false := PyProof.Rows.lex_irrefl _
  rw [e]
  by_cases h1 : a = a'
  · subst h1
    by_cases h2 : b = b'
    · subst h2
      by_cases h3 : c = c'
      · subst h3; simp
      · simp [h3]
    · simp [h2]
  · simp [h1]
theorem leD_3 (p q : P3) : leD' (d3 p) (d3 q) = le3 p q := by
  have : leD' (d3 p) (d3 q) = !PySem.W.dataLt (d3 q) (d3 p) := by
    unfold leD'
    rw [PySem.W.dataLe_eq]
    rfl
  rw [this]
  unfold d3
  rw [lt_3]
  unfold le3
  rw [← decide_not]
  congr 1
  apply propext
  omega
theorem srt_map {α : Type} (f : α → D) (xs : List α) : srt (xs.map f) = (xs.mergeSort fun a b => leD' (f a) (f b)).map f := by
  unfold srt
  exact (List.map_mergeSort (f := f) (r := fun a b => leD' (f a) (f b)) (s := leD') (fun a _ b _ => rfl)).symm
theorem srtOk_2 (xs : List P2) : SrtOk (xs.map d2) where
  lay := by intro d hd; obtain ⟨i, _, rfl⟩ := List.mem_map.mp hd; rfl
  al := PySem.W.AllAlike.of fun _ _ => by simp [d2, PySem.W.alike, PySem.W.alikeAll]
  so := PySem.W.Sortable.tuples fun _ => ⟨_, _, rfl⟩
  dp := by intro d hd; obtain ⟨i, _, rfl⟩ := List.mem_map.mp hd; simp [d2, PyData.depth, PyData.depthAll]
theorem srtOk_3 (xs : List P3) : SrtOk (xs.map d3) where
  lay := by intro d hd; obtain ⟨i, _, rfl⟩ := List.mem_map.mp hd; rfl
  al := PySem.W.AllAlike.of fun _ _ => by simp [d3, PySem.W.alike, PySem.W.alikeAll]
  so := PySem.W.Sortable.tuples fun _ => ⟨_, _, rfl⟩
  dp := by intro d hd; obtain ⟨i, _, rfl⟩ := List.mem_map.mp hd; simp [d3, PyData.depth, PyData.depthAll]
def sort2 (xs : List P2) : List P2 := xs.mergeSort le2
def sort3 (xs : List P3) : List P3 := xs.mergeSort le3
theorem srt_2 (xs : List P2) : srt (xs.map d2) = (sort2 xs).map d2 := by
  rw [srt_map]
  have : (fun a b : P2 => leD' (d2 a) (d2 b)) = le2 := funext fun a => funext fun b => leD_2 a b
  rw [this]; rfl
theorem srt_3 (xs : List P3) : srt (xs.map d3) = (sort3 xs).map d3 := by
  rw [srt_map]
  have : (fun a b : P3 => leD' (d3 a) (d3 b)) = le3 := funext fun a => funext fun b => leD_3 a b
  rw [this]; rfl
theorem sort2_perm (xs : List P2) : (sort2 xs).Perm xs := List.mergeSort_perm _ _
theorem sort3_perm (xs : List P3) : (sort3 xs).Perm xs := List.mergeSort_perm _ _
theorem sort2_so (xs : List P2) : (sort2 xs).Pairwise fun a b => le2 a b = true := by
  refine List.pairwise_mergeSort (fun a b c h1 h2 => ?_) (fun a b => ?_) xs
  · unfold le2 at *; rw [decide_eq_true_eq] at *; omega
  · unfold le2; rw [Bool.or_eq_true, decide_eq_true_eq, decide_eq_true_eq]; omega
theorem sort3_so (xs : List P3) : (sort3 xs).Pairwise fun a b => le3 a b = true := by
  refine List.pairwise_mergeSort (fun a b c h1 h2 => ?_) (fun a b => ?_) xs
  · unfold le3 at *; rw [decide_eq_true_eq] at *; omega
  · unfold le3; rw [Bool.or_eq_true, decide_eq_true_eq, decide_eq_true_eq]; omega
theorem sort2_uniq {xs ys : List P2} (hp : ys.Perm xs) (hs : ys.Pairwise fun a b => le2 a b = true) : ys = sort2 xs := by
  refine List.Perm.eq_of_pairwise (fun a b _ _ h1 h2 => ?_) hs (sort2_so xs) (hp.trans (sort2_perm xs).symm)
  unfold le2 at *
  rw [decide_eq_true_eq] at *
  exact Prod.ext (by omega) (by omega)
/-- a row of values of a range, read -/
theorem at_rngf {f : Int → Int} {i : Int} {n : Int} (h0 : 0 ≤ i) (h1 : i < n) : atI (dInts ((rng 0 n).map f)) i = some (.int (f i)) := by
  have hl : (rng 0 n).length = n.toNat := by unfold rng; simp
  rw [at_dInts h0 (by rw [List.length_map, hl]; omega), List.getElem_map]
  congr 3
  unfold rng
  simp
  omega
theorem add_ll {xs ys : List D} (h : xs.length + ys.length ≤ 16777216) : addD (.list xs) (.list ys) = some (.list (xs ++ ys)) := by
  have h2 : xs.length + ys.length ≤ sizeLine := by rw [sizeLine_eq]; exact h
  exact if_pos h2
theorem add_tt {xs ys : List D} (h : xs.length + ys.length ≤ 16777216) : addD (.tuple xs) (.tuple ys) = some (.tuple (xs ++ ys)) := by
  have h2 : xs.length + ys.length ≤ sizeLine := by rw [sizeLine_eq]; exact h
  exact if_pos h2
theorem at_endI {ns : List Int} (h : ns ≠ []) : atI (dInts ns) (-1) = some (.int (ns.getLast h)) := by
  have e : ns = ns.dropLast ++ [ns.getLast h] := (List.dropLast_concat_getLast h).symm
  conv => lhs; rw [e]
  rw [dI_one]
  exact at_end
theorem min_dI {ns : List Int} (h : 0 < ns.length) : minD (.list (dInts ns)) = some (.int (minL ns)) := by
  show (intsOf (ns.map PyData.int)).bind _ = _
  rw [intsOf_map]
  exact if_pos h
theorem max_dI {ns : List Int} (h : 0 < ns.length) : maxD (.list (dInts ns)) = some (.int (maxL ns)) := by
  show (intsOf (ns.map PyData.int)).bind _ = _
  rw [intsOf_map]
  exact if_pos h
end Mi

namespace Mi
open PySem PySem.Spec L2
/-! ### a call that only reads the caller's own lists, with an answer that holds no object -/
def atomD : D → Bool
  | .none => true
  | .bool _ => true
  | .int _ => true
  | .str _ => true
  | _ => false
def noDr : List Sl → Bool
  | [] => true
  | .dr :: _ => false
  | _ :: r => noDr r
def sCallB (n : Nat) (sm : Sm) (mr : SR) : SE := fun env Q => mr env fun args => noDr args = true ∧ up sm args fun d => atomD d = true ∧ Q d
theorem Rv.atom {K : Fg} {F F' : Hp} {d : D} {v : V} (h : Rv K F d v) (a : atomD d = true) : Rv K F' d v := by
  cases h with
  | non => exact .non
  | bl b => exact .bl b
  | int i => exact .int i
  | str s z => exact .str s z
  | _ => cases a
theorem Vr.all {K : Fg} {y : Cy} {dr : Option Addr} {F H : Hp} {env : En} {σ : L2.St} (re : Re K y dr F env σ H) {d : D} {v : V} (w : Vr K true F env σ d v) : Rv K H d v := by
  rcases w with w | ⟨_, i, s, e1, e2, e3⟩
  · exact w.mono re.rf.sub
  · obtain ⟨o, q1, q2⟩ := re.get e1
    rw [e3] at q1; cases q1
    cases s with
    | l zs =>
      cases e2
      obtain ⟨a, vs, h1, h2, h3, h4, _⟩ := q2
      cases h1
      exact .lst h2 h3 (h4.mono re.rf.sub)
    | k zs =>
      cases e2
      obtain ⟨a, vs, h1, h2, h3, _⟩ := q2
      cases h1
      exact .dic (.inl h2) (h3.mono re.rf.sub)
    | t zs =>
      cases e2
      obtain ⟨a, vs, h1, h2, h3, _⟩ := q2
      cases h1
      exact .dit (.inl h2) (h3.mono re.rf.sub)
    | _ => cases e2
theorem args_all {K : Fg} {y : Cy} {dr : Option Addr} {F H : Hp} {env : En} {σ : L2.St} (re : Re K y dr F env σ H) : ∀ {args : List Sl} {vs : List V}, Paired (RArgB K true F dr env σ) args vs → noDr args = true → Paired (RArg K H none) args vs
  | [], [], .nil, _ => .nil
  | s :: args, v :: vs, .cons r t, h => by
    cases s with
    | v d => exact .cons (Vr.all re r) (args_all re t h)
    | dr => cases h
    | _ => exact r.elim
section
variable {X : Cx} {b : Bool} {e : Expr} {es : List Expr} {mr : SR} {pos p : Pos}
theorem me_callDB {k n : Nat} {ps : List Str} {sm : Sm} {x : Str} (d : Df X.prog X.w X.K X.mg X.base x k ps (spOf X.G sm n)) (hn : ps.length = n) (hr : Room k X.A)
    (hl : (e :: es).length = n) (ha : MR X true (e :: es) mr) (hg : Gl X x := by rfl) (hdb : (x == ("__debug__" : Str)) = false := by decide) (he : starEach (e :: es) X.env = (false, eval e X.env) :: starEach es X.env := by rfl) (hpl : (backTo pos (starEach es X.env)).any (·.1) = false := by rfl) :
    ME X b (.Call (.Name x p) (e :: es) [] pos) (sCallB n sm mr) := by
  obtain ⟨f, fd, hm, hk, hb, Fo⟩ := d
  refine ⟨⟨fun pins s σ H Q I h => (pe_call Fo hr hg hm hk hb .nil pass0 ha.run hdb he hpl).run pins s σ H Q I ?_⟩, fun env P Q k h => ha.mono _ _ _ (fun args h1 => ⟨h1.1, up_mono (fun d h2 => ⟨h2.1, k _ h2.2⟩) h1.2⟩) h⟩
  obtain ⟨y, dr, F, env, re, hm2⟩ := h
  refine ⟨y, dr, F, env, re, ha.mono _ _ _ (fun args h1 vs H1 F1 r1 s1 w1 => ?_) (ha.len _ _ hm2)⟩
  have hlen : args.length = vs.length := Paired.length w1
  refine ⟨by rw [List.append_nil, ← hlen]; exact h1.1.trans hl, H1, none, args, Same.refl _, fun _ e => (nomatch e), ?_, up_mono (fun d hd v H' F' dr' rf rv => ?_) h1.2.2⟩
  · rw [List.append_nil]
    exact args_all r1 w1 h1.2.1
  · have gr : ∀ a o, H1 a = some o → H' a = some o := fun a o h => rf.gr a o h (by simp)
    have b2 : Rf ⟨F1, H1, dr⟩ dr F1 H' := ⟨fun a o h => gr a o (r1.rf.sub a o h), Same.refl _, fun a h => .inl h, fun a o h _ => gr a o h, fun a h => by
      cases q : H1 a with
      | none => exact absurd q h
      | some o => rw [gr a o q]; simp, fun a h => by
      obtain ⟨q1, q2⟩ := r1.rf.drw a h
      obtain ⟨l, ns, p, c, s', h1, h2⟩ := q2
      exact ⟨q1, l, ns, p, c, s', gr _ _ h1, h2⟩, .inr rfl, fun a h => .inl h⟩
    exact hd.2 v H' F1 (r1.back b2) (s1.trans ⟨Same.refl _, fun a o h _ => gr a o h⟩) (.inl (rv.atom hd.1))
end
@[simp] theorem u_sCallB {n : Nat} {sm : Sm} {mr : SR} {env : En} {Q : D → Prop} : sCallB n sm mr env Q = (mr env fun args => noDr args = true ∧ up sm args fun d => atomD d = true ∧ Q d) := rfl
@[simp] theorem noDr_n : noDr [] = true := rfl
@[simp] theorem noDr_v {d : D} {r : List Sl} : noDr (.v d :: r) = noDr r := rfl
end Mi

namespace Mi
open PySem PySem.Spec L2
/-! ### x.append((a, y.pop(0))), x and y own lists, a a name -/
def popK (ys : List D) (P : D → List D → Prop) : Prop := match ys with
  | y :: r => P y r
  | [] => False
@[simp] theorem popK_c {y : D} {r : List D} {P : D → List D → Prop} : popK (y :: r) P = P y r := rfl
def sAppPop (i j k : Nat) : SS := fun K env => ownL env i fun xs => ownL env j fun ys => sVar k env fun d => i ≠ j ∧ xs.length < 16777216 ∧ popK ys fun y r => K.nx ((env.set j (.l r)).set i (.l (xs ++ [.tuple [d, y]])))
@[simp] theorem u_sAppPop {i j k : Nat} {K : Ks} {env : En} : sAppPop i j k K env = (ownL env i fun xs => ownL env j fun ys => sVar k env fun d => i ≠ j ∧ xs.length < 16777216 ∧ popK ys fun y r => K.nx ((env.set j (.l r)).set i (.l (xs ++ [.tuple [d, y]])))) := rfl
section
variable {X : Cx} {pos apos cpos npos p1 p2 p3 p4 p5 : Pos}
theorem ms_appPop {i j k : Nat} {x a y : Str} {ctx : Pos} {kk c0 : Nat} (hx : PE X (.Name x npos) (tVar i)) (hy : PE X (.Name y p1) (tVar j)) (ha : PE X (.Name a p2) (tVar k))
    (b1 : attributeBase (.Name y p1) "pop" X.env (eval (.Name y p1) X.env) = eval (.Name y p1) X.env := by rfl)
    (f1 : ((backTo p5 (starEach [.Constant (.int 0) c0 p4] X.env)).all (fun x => !x.1) && (backToKw p5 (keywordEach [] X.env)).all (fun x => x.1.isSome)
      && decide (([.Constant (.int 0) c0 p4] : List Expr).length + ([] : List Keyword).length + (if ([] : List Keyword).isEmpty then 0 else 1) < 30)) = true := by rfl)
    (l1 : (p3.endLine == p5.line) = true := by rfl) (s1 : starEach [.Constant (.int 0) c0 p4] X.env = (false, eval (.Constant (.int 0) c0 p4) X.env) :: starEach [] X.env := by rfl) (q1 : (backTo p5 (starEach [] X.env)).any (·.1) = false := by rfl)
    (s2 : starEach [.Call (.Attribute (.Name y p1) "pop" p3) [.Constant (.int 0) c0 p4] [] p5] X.env = (false, eval (.Call (.Attribute (.Name y p1) "pop" p3) [.Constant (.int 0) c0 p4] [] p5) X.env) :: starEach [] X.env := by rfl)
    (s3 : starEach [.Name a p2, .Call (.Attribute (.Name y p1) "pop" p3) [.Constant (.int 0) c0 p4] [] p5] X.env = (false, eval (.Name a p2) X.env) :: starEach [.Call (.Attribute (.Name y p1) "pop" p3) [.Constant (.int 0) c0 p4] [] p5] X.env := by rfl)
    (hbase : attributeBase (.Name x npos) "append" X.env (eval (.Name x npos) X.env) = eval (.Name x npos) X.env := by rfl)
    (hfew : ((backTo cpos (starEach [.Tuple [.Name a p2, .Call (.Attribute (.Name y p1) "pop" p3) [.Constant (.int 0) c0 p4] [] p5] kk ctx] X.env)).all (fun x => !x.1) && (backToKw cpos (keywordEach [] X.env)).all (fun x => x.1.isSome)
      && decide (([.Tuple [.Name a p2, .Call (.Attribute (.Name y p1) "pop" p3) [.Constant (.int 0) c0 p4] [] p5] kk ctx] : List Expr).length + ([] : List Keyword).length + (if ([] : List Keyword).isEmpty then 0 else 1) < 30)) = true := by rfl)
    (hline : (apos.endLine == cpos.line) = true := by rfl) (hs : starEach [.Tuple [.Name a p2, .Call (.Attribute (.Name y p1) "pop" p3) [.Constant (.int 0) c0 p4] [] p5] kk ctx] X.env = (false, eval (.Tuple [.Name a p2, .Call (.Attribute (.Name y p1) "pop" p3) [.Constant (.int 0) c0 p4] [] p5] kk ctx) X.env) :: starEach [] X.env := by rfl) (hplain : (backTo cpos (starEach [] X.env)).any (·.1) = false := by rfl)
    (hsw : swapsWith (.Call (.Attribute (.Name x npos) "append" apos) [.Tuple [.Name a p2, .Call (.Attribute (.Name y p1) "pop" p3) [.Constant (.int 0) c0 p4] [] p5] kk ctx] [] cpos) none pos.line X.env = pure false := by rfl) :
    MS X (.Expr (.Call (.Attribute (.Name x npos) "append" apos) [.Tuple [.Name a p2, .Call (.Attribute (.Name y p1) "pop" p3) [.Constant (.int 0) c0 p4] [] p5] kk ctx] [] cpos) pos) (sAppPop i j k) := by
  have P := pe_bm PySem.F.plainAttrs_list PySem.F.slot_list_pop PySem.F.type_list_pop mt_popAt hy (pa_cons (pe_int (i := 0) (j := c0) (pos := p4)) pa_nil s1) b1 f1 l1 s1 q1
  have T := pe_tupP (x1 := kk) (pos := ctx) (pa_cons ha (pa_cons P pa_nil s2) s3)
  refine ⟨⟨fun pins s σ H E I h => (ps_expr (pe_bm PySem.F.plainAttrs_list PySem.F.slot_list_append PySem.F.type_list_append mt_append hx (pa_cons T pa_nil hs) hbase hfew hline hs hplain) hsw).run pins s σ H E I ?_⟩,
    fun a c env k h => ?_⟩
  · obtain ⟨y', dr, F, env, re, hm⟩ := h
    obtain ⟨xs, qx, _, hm⟩ := ownL_some hm
    obtain ⟨ys, qy, _, hm⟩ := ownL_some hm
    have hv : ∃ d, gv env k = .v d ∧ i ≠ j ∧ xs.length < 16777216 ∧ popK ys fun y r => (kS X.G y' F E).nx ((env.set j (.l r)).set i (.l (xs ++ [.tuple [d, y]]))) := by
      unfold sVar at hm
      split at hm
      · rename_i d e; exact ⟨d, e, hm⟩
      · exact hm.elim
    obtain ⟨d, qd, hne, hlen, hm⟩ := hv
    obtain ⟨o, g1, px, vs, g2, g3, gz, gr, gf, gh, gd⟩ := re.get qx
    subst g2
    obtain ⟨o2, g4, py, ws, g5, g6, gz2, gr2, gf2, gh2, gd2⟩ := re.get qy
    subst g5
    obtain ⟨o3, g7, v, g8, g9⟩ := re.get (gv_some qd (by simp))
    subst g8
    cases ys with
    | nil => exact hm.elim
    | cons y0 r =>
      cases gr2 with
      | cons ry rr =>
        rename_i v0 vs0
        refine ⟨.ref px, g1, .inl ⟨rfl, _, SqL.of g3⟩, ?_⟩
        refine ⟨v, g7, ?_⟩
        refine ⟨.ref py, g4, .inl ⟨rfl, _, SqL.of g6⟩, ?_⟩
        refine ⟨py, v0 :: vs0, 0, 0, v0, rfl, rfl, g6, by decide, by decide, ?_, rfl, ?_⟩
        · show seqIndex? 0 (v0 :: vs0).length = some 0
          unfold seqIndex?
          simp
        · show _ ≤ _ ∧ _
          have r2 := re.setL (p := py) qy g4 rr (by have := gz2; simp only [List.length_cons] at this; omega)
          refine ⟨by rw [sizeLine_eq]; simp, fun p o to hp => ?_⟩
          have r3 := r2.laid (o := .frz o (.tup [v, v0])) hp
          have qi : (env.set j (.l r))[i]? = some (.l xs) := by rw [List.getElem?_set_ne (Ne.symm hne)]; exact qx
          obtain ⟨p', vs', e1, e2, e3, e4⟩ := r3.ownL qi g1
          cases e1
          have hz : xs.length < sizeLine := by rw [sizeLine_eq]; exact hlen
          refine ⟨px, vs', .ref p, rfl, rfl, e2, by rw [← e4.length]; exact hz, ?_⟩
          have rt : Rv X.G (upd F p (.frz o (.tup [v, v0]))) (.tuple [d, y0]) (.ref p) := Rv.tupNew (r2.nF hp) to (by rw [sizeLine_eq]; simp) (.cons g9 (.cons ry .nil))
          exact hm dr _ σ _ (r3.setL qi g1 (e4.append (.cons rt .nil)) (by rw [List.length_append]; exact hz)) (upd_grow (r2.nF hp))
  · refine ownL_mono (fun xs h1 => ownL_mono (fun ys h2 => ?_) h1) h
    unfold sVar at h2 ⊢
    split
    · rename_i d e
      rw [e] at h2
      obtain ⟨z1, z2, z3⟩ := h2
      refine ⟨z1, z2, ?_⟩
      cases ys with
      | nil => exact z3
      | cons y0 r => exact k.nx _ z3
    · rename_i e
      split at h2
      · rename_i d e2; exact absurd e2 (e d)
      · exact h2
end
end Mi

namespace Mi
open PySem PySem.Spec L2
/-! ### xs + ys of lists as a new list of one's own -/
def sAddL (ma mc : SE) : SL := fun env Q => ma env fun x => mc env fun z => match x, z with
  | .list xs, .list ys => xs.length + ys.length ≤ 16777216 ∧ Q (xs ++ ys)
  | _, _ => False
section
variable {X : Cx} {a c : Expr} {ma mc : SE} {pos : Pos}
theorem mf_add (ha : ME X true a ma) (hc : ME X true c mc) : MF X (.BinOp a .Add c pos) (sAddL ma mc) := by
  refine ⟨⟨fun pins s σ H Q I h => (pe_op op_cat ha.run hc.run).run pins s σ H Q I ?_⟩, fun env P Q k h => ha.mono _ _ _ (fun d h1 => hc.mono _ _ _ (fun d2 h2 => ?_) h1) h⟩
  · obtain ⟨y, dr, F, env, re, hm⟩ := h
    refine ⟨y, dr, F, env, re, ha.mono _ _ _ (fun d1 h1 v1 H1 F1 r1 s1 w1 => ?_) hm⟩
    refine ⟨y, dr, F1, env, r1, hc.mono _ _ _ (fun d2 h2 v2 H2 F2 r2 s2 w2 => ?_) h1⟩
    split at h2
    · rename_i xs ys
      obtain ⟨p, vs, rfl, e1, z1, rv⟩ := (w1.mono s2).list r2
      obtain ⟨p2, ws, rfl, e2, z2, rw2⟩ := w2.list r2
      have hz : xs.length + ys.length ≤ sizeLine := by rw [sizeLine_eq]; exact h2.1
      refine ⟨p, p2, vs, ws, rfl, rfl, e1, e2, by rw [← rv.length, ← rw2.length]; exact hz, fun q hq => ?_⟩
      exact new_lst r2 (s1.trans s2) hq (rv.append rw2) (by rw [List.length_append]; exact hz) h2.2
    · exact h2.elim
  · split at h2
    · exact ⟨h2.1, k _ h2.2⟩
    · exact h2
@[simp] theorem u_sAddL {env : En} {Q : List D → Prop} : sAddL ma mc env Q = (ma env fun x => mc env fun z => match x, z with
  | .list xs, .list ys => xs.length + ys.length ≤ 16777216 ∧ Q (xs ++ ys)
  | _, _ => False) := rfl
end
end Mi

namespace Mi
open PySem PySem.Spec L2
/-! ### x = [.. for k in d ..], d a dict of one's own with int keys, that is locked meanwhile -/
def lkD (kvs : List (Key × D)) : D := .dict ((.bool true, .none) :: kdD kvs)
def asLk : D → Option (List (Key × D))
  | .dict ((.bool true, .none) :: r) => asKs r
  | _ => none
@[simp] theorem asLk_lk (kvs : List (Key × D)) : asLk (lkD kvs) = some kvs := asKs_kd kvs
theorem Vr.asLk {K : Fg} {b : Bool} {y : Cy} {dr : Option Addr} {F H : Hp} {env : En} {σ : L2.St} (re : Re K y dr F env σ H) {d : D} {kvs : List (Key × D)} {v : V} (w : Vr K b F env σ d v) (h : asLk d = some kvs) :
    ∃ a o kws, v = .ref a ∧ F a = some (.frz o (.dK kws)) ∧ Rks K F (kdD kvs) kws := by
  rcases w with w | ⟨_, i, s, e1, e2, e3⟩
  · cases w with
    | dil q r => rw [asKs_eq h] at r; exact ⟨_, _, _, rfl, q, r⟩
    | dic q r =>
      rename_i kvs' kws
      cases r with
      | nil => cases h
      | cons a b => rename_i k d ds v vs; cases k <;> cases h
    | dit q r => cases h
    | _ => cases h
  · cases s with
    | k zs =>
      cases e2
      cases zs with
      | nil => cases h
      | cons p r => obtain ⟨k, d⟩ := p; cases k <;> cases h
    | t zs => cases e2; cases h
    | l zs => cases e2; cases h
    | _ => cases e2
def iKeysL (m : SE) : SI := fun env Q => m env fun d => obK (asLk d) fun kvs => obI (keysI kvs) fun ks => ks.length ≤ 16777216 ∧ Q (dInts ks)
section
variable {X : Cx} {b : Bool} {a c e tg iter elt : Expr} {ma mc me el : SE} {pos : Pos} {g : SG} {t : SB} {src : SI} {ifs : List Expr} {scope : Scope} {own : List (Str × Nat)}
theorem mi_keysL (ha : ME X b a ma) : MI X b tg a (iKeysL ma) := by
  refine ⟨⟨fun pins s σ H R I h => (pi_keys ha.run).run pins s σ H R I ?_⟩, fun env P Q k h => ha.mono _ _ _ (fun d hd => obK_mono (fun kvs h1 => obI_mono (fun ks h2 => ⟨h2.1, k _ h2.2⟩) h1) hd) h⟩
  obtain ⟨y, dr, F, env, re, hm⟩ := h
  refine ⟨y, dr, F, env, re, ha.mono _ _ _ (fun d hd v H' F' r1 s1 w => ?_) hm⟩
  cases q : asLk d with
  | none => rw [q] at hd; exact hd.elim
  | some kvs =>
    rw [q] at hd
    have hd : obI (keysI kvs) _ := hd
    cases q2 : keysI kvs with
    | none => rw [q2] at hd; exact hd.elim
    | some ks =>
      rw [q2] at hd
      obtain ⟨p, o, kws, rfl, e1, e2⟩ := w.asLk r1 q
      have hH : H' p = some (.frz o (.dK kws)) := r1.rf.sub _ _ e1
      have hk : kws.map (·.1) = ks.map Sum.inl := (rks_keys e2).trans (keysI_eq q2)
      have hl : kws.length = ks.length := by have := congrArg List.length hk; simpa using this
      have nd : some p ≠ dr := fun e => by rw [(r1.rf.drw _ e.symm).1] at e1; cases e1
      refine ⟨p, o, rfl, .inl ⟨kws, hH, ?_⟩⟩
      obtain ⟨hz, hd⟩ := hd
      have hd : ∀ J H'' F'' G Y, _ := hd
      refine hd (Itk p o kws) H' F' (fun H1 => H1 p = some (.frz o (.dK kws))) (fun i H1 x H2 => H2 = H1 ∧ ∃ k v, kws[i]? = some (k, v) ∧ x = kV k) r1 s1 (by rw [dInts_len, sizeLine_eq]; exact hz) ?_ ⟨fun _ H1 s => s _ _ e1, fun _ H1 k => k _ _ hH nd⟩ ?_
      · rw [dInts_len, ← hl]
        exact ⟨fun i H hi h => ⟨h, hi⟩, fun H h => ⟨h, Nat.le_refl _⟩, fun i H x H2 _ _ h => h⟩
      · rintro i H1 x H2 hi _ ⟨rfl, k, v, hkv, rfl⟩ y1 dr1 F1 env1 σ1 re1 sm
        have hi2 : i < ks.length := by rw [dInts_len] at hi; exact hi
        have e3 : (kws.map (·.1))[i]? = some k := by rw [List.getElem?_map, hkv]; rfl
        rw [hk, List.getElem?_map, List.getElem?_eq_getElem hi2] at e3
        have e4 : k = .inl ks[i] := (Option.some.inj e3).symm
        subst e4
        exact ⟨F1, Ex.refl, re1, ⟨.int ks[i], dInts_get hi2, .int _⟩, Same.refl _, fun _ h _ => h⟩
/-- the state while the dict at slot j is locked -/
theorem Re.lock {K : Fg} {y : Cy} {dr : Option Addr} {F H : Hp} {env : En} {σ : L2.St} (re : Re K y dr F env σ H) {j : Nat} {kvs : List (Key × D)} {p : Addr} {kws : List (Key × V)} {od : Obj} (h1 : env[j]? = some (.k kvs)) (h2 : σ[j]? = some (some (.ref p))) (h3 : H p = some (.dK kws)) (h4 : Rks K F (kdD kvs) kws) :
    Re K y dr (upd F p (.frz od (.dK kws))) (env.set j (.v (lkD kvs))) σ (upd H p (.frz od (.dK kws))) := by
  obtain ⟨a, e1, _, e3, e4, e5⟩ := (re.slot j _ _ h1 h2).there rfl
  cases e1
  have sF : Same F (upd F p (.frz od (.dK kws))) := upd_grow e3
  have kp : ∀ b, b ≠ p → upd H p (.frz od (.dK kws)) b = H b := fun b hb => upd_ne hb
  refine ⟨⟨fun b u e => ?_, re.rf.sup.trans sF, fun b hb => ?_, fun b u e n => ?_, fun b hb => ?_, fun b hb => ?_, re.rf.drs, re.rf.drn⟩, by rw [List.length_set]; exact re.len, fun i s o g1 g2 => ?_, fun i l a s1 s2 g1 g2 o1 o2 g3 g4 => ?_⟩
  · by_cases hb : b = p
    · subst hb; rw [upd_same] at e ⊢; exact e
    · rw [upd_ne hb] at e ⊢; exact re.rf.sub b u e
  · by_cases hbp : b = p
    · subst hbp; exact .inr e4
    · rw [upd_ne hbp] at hb; exact re.rf.new b hb
  · have hb : b ≠ p := fun z => by rw [z, e4] at e; cases e
    rw [kp b hb]; exact re.rf.gr b u e n
  · have hbp : b ≠ p := fun z => by rw [z, e4] at hb; exact hb rfl
    rw [kp b hbp]; exact re.rf.dom b hb
  · obtain ⟨q1, q2⟩ := re.rf.drw b hb
    have hbp : b ≠ p := fun z => e5 (by rw [← z]; exact hb.symm)
    exact ⟨by rw [upd_ne hbp]; exact q1, (q2.mono sF).at (kp b hbp)⟩
  · rcases own_of_get g1 with ⟨rfl, rfl⟩ | ⟨ne, g1⟩
    · rw [h2] at g2; cases g2
      exact ⟨.ref p, rfl, .dil upd_same (h4.mono sF)⟩
    · refine (re.slot i s o g1 g2).keep sF fun a ha w => ?_
      obtain ⟨c, w1, _, w3, w4, _⟩ := (re.slot i s o g1 g2).there w
      rw [ha] at w1; cases w1
      have : a ≠ p := fun z => by
        subst z
        exact ne (re.sep i j a s _ g1 h1 w rfl (by rw [g2, ha]) h2)
      exact ⟨kp a this, by rw [upd_ne this]; exact w3, w4⟩
  · have back : ∀ {m : Nat} {s : Sl}, (env.set j (.v (lkD kvs)))[m]? = some s → s.own = true → env[m]? = some s := fun {m s} g w => by
      rcases own_of_get g with ⟨_, rfl⟩ | ⟨_, g⟩
      · cases w
      · exact g
    exact re.sep i l a s1 s2 (back g1 o1) (back g2 o2) o1 o2 g3 g4
/-- and back -/
theorem Re.unlock {K : Fg} {y : Cy} {dr : Option Addr} {F F2 H H2 : Hp} {env : En} {σ : L2.St} (re : Re K y dr F env σ H) {j : Nat} {kvs : List (Key × D)} {p : Addr} {kws : List (Key × V)} {od : Obj} (h1 : env[j]? = some (.k kvs)) (h2 : σ[j]? = some (some (.ref p))) (h3 : H p = some (.dK kws)) (h4 : Rks K F (kdD kvs) kws)
    (r2 : Re K y dr F2 (env.set j (.v (lkD kvs))) σ H2) (x : Ex dr (upd F p (.frz od (.dK kws))) (upd H p (.frz od (.dK kws))) F2 H2) :
    ∃ F3, Same F F3 ∧ (∀ c, c ≠ p → F3 c = F2 c) ∧ F3 p = none ∧ Re K y dr F3 env σ (upd H2 p (.dK kws)) := by
  obtain ⟨a, e1, _, e3, e4, e5⟩ := (re.slot j _ _ h1 h2).there rfl
  cases e1
  have f2 : F2 p = some (.frz od (.dK kws)) := x.f _ _ upd_same
  refine ⟨fun c => if c = p then none else F2 c, fun c o e => ?_, fun c hc => if_neg hc, if_pos rfl, ?_⟩
  · have hc : c ≠ p := fun z => by rw [z, e3] at e; cases e
    show (if c = p then none else F2 c) = some o
    rw [if_neg hc]
    exact x.f _ _ (by rw [upd_ne hc]; exact e)
  have g3 : ∀ c, c ≠ p → (fun c => if c = p then none else F2 c : Hp) c = F2 c := fun c hc => if_neg hc
  have gp : (fun c => if c = p then none else F2 c : Hp) p = none := if_pos rfl
  have sF : Same F (fun c => if c = p then none else F2 c) := fun c o e => by
    have hc : c ≠ p := fun z => by rw [z, e3] at e; cases e
    rw [g3 c hc]
    exact x.f _ _ (by rw [upd_ne hc]; exact e)
  generalize hF3 : (fun c => if c = p then none else F2 c : Hp) = F3 at *
  have kp : ∀ b, b ≠ p → upd H2 p (.dK kws) b = H2 b := fun b hb => upd_ne hb
  refine ⟨⟨fun b u e => ?_, re.rf.sup.trans sF, fun b hb => ?_, fun b u e n => ?_, fun b hb => ?_, fun b hb => ?_, r2.rf.drs, r2.rf.drn⟩, re.len, fun i s o q1 q2 => ?_, re.sep⟩
  · have hb : b ≠ p := fun z => by rw [z, gp] at e; cases e
    rw [kp b hb]
    exact r2.rf.sub b u (by rw [← g3 b hb]; exact e)
  · have hbp : b ≠ p := fun z => by rw [z, gp] at hb; exact hb rfl
    exact r2.rf.new b (by rw [← g3 b hbp]; exact hb)
  · have hb : b ≠ p := fun z => by rw [z, e4] at e; cases e
    rw [kp b hb]; exact r2.rf.gr b u e n
  · have hbp : b ≠ p := fun z => by rw [z, e4] at hb; exact hb rfl
    rw [kp b hbp]; exact r2.rf.dom b hb
  · obtain ⟨q1, l, ns, pp, cc, ss, d1, d2, d3⟩ := r2.rf.drw b hb
    have hbp : b ≠ p := fun z => e5 (by rw [← z]; exact hb.symm)
    have hl : l ≠ p := fun z => by rw [z, f2] at d2; cases d2
    exact ⟨by rw [g3 b hbp]; exact q1, l, ns, pp, cc, ss, by rw [kp b hbp]; exact d1, by rw [g3 l hl]; exact d2, d3⟩
  · by_cases hij : i = j
    · subst hij
      rw [h1] at q1; cases q1
      rw [h2] at q2; cases q2
      exact ⟨p, kws, rfl, upd_same, h4.mono sF, gp, e4, e5⟩
    · refine (re.slot i s o q1 q2).keep sF fun a ha w => ?_
      obtain ⟨c, w1, w2, w3, w4, w5⟩ := (re.slot i s o q1 q2).there w
      rw [ha] at w1; cases w1
      have hap : a ≠ p := fun z => by
        subst z
        exact hij (re.sep i j a s _ q1 h1 w rfl (by rw [q2, ha]) h2)
      have q1' : (env.set j (.v (lkD kvs)))[i]? = some s := by rw [List.getElem?_set_ne (Ne.symm hij)]; exact q1
      obtain ⟨c, z1, _, z3, _, _⟩ := (r2.slot i s o q1' q2).there w
      rw [ha] at z1; cases z1
      refine ⟨?_, by rw [g3 a hap]; exact z3, w4⟩
      rw [kp a hap]
      cases q : H a with
      | none => exact absurd q w2
      | some ob => exact x.k a ob (by rw [upd_ne hap]; exact q) w5
end
end Mi

namespace Mi
open PySem PySem.Spec L2
theorem rvs_atom {K : Fg} {F F' : Hp} : ∀ {xs : List D} {vs : List V}, xs.all atomD = true → Rvs K F xs vs → Rvs K F' xs vs
  | [], _, _, r => by cases r; exact .nil
  | d :: xs, _, h, r => by
    rw [List.all_cons, Bool.and_eq_true] at h
    cases r with
    | cons a b => exact .cons (a.atom h.1) (rvs_atom h.2 b)
def sLcD (i j : Nat) (own : List Nat) (g : SG) (t : SB) (el : SE) : SS := fun K env => ownK env j fun kvs => i ≠ j ∧ sLc (iKeysL (sVar j)) own g t el (env.set j (.v (lkD kvs))) fun xs => xs.all atomD = true ∧ K.nx (env.set i (.v (.list xs)))
section
variable {X : Cx} {b : Bool} {a c e tg elt : Expr} {pos : Pos} {g : SG} {t : SB} {el : SE} {ifs : List Expr} {scope : Scope} {own : List (Str × Nat)}
theorem ms_lcD {i j : Nat} {x z : Str} {py spos npos : Pos} (hc : X.calm = true) (hN : X.N.Nodup) (hy : X.N[i]? = some x) (hyl : X.env.scope.names.lookup x = some .local)
    (hsw : swapsWith (.ListComp elt [⟨tg, .Name z npos, ifs, 0⟩] scope pos) (some (.Name x py)) spos.line X.env = pure true) (hv : PE X (.Name z npos) (tVar j)) (ok : BlkOk X.N X.env.scope scope own)
    (hg : ∀ (s : Shared) (H : Hp) (C : Addr) (cl : List (Str × Addr)) (fp : List Addr), MG (X.blk s H scope (compEnvC scope cl C X.env) fp) (own.map (·.2)) tg g)
    (ht : ∀ (s : Shared) (H : Hp) (C : Addr) (cl : List (Str × Addr)) (fp : List Addr), MTs (X.blk s H scope (compEnvC scope cl C X.env) fp) ifs t)
    (he : ∀ (s : Shared) (H : Hp) (C : Addr) (cl : List (Str × Addr)) (fp : List Addr), ME (X.blk s H scope (compEnvC scope cl C X.env) fp) false elt el) (hs : ∀ x, foldedSetIterable (.Name z npos) X.env x = pure x := by intro _; rfl) :
    MS X (.Assign [.Name x py] (.ListComp elt [⟨tg, .Name z npos, ifs, 0⟩] scope pos) spos) (sLcD i j (own.map (·.2)) g t el) := by
  have hi : MI X true tg (.Name z npos) (iKeysL (sVar j)) := mi_keysL (me_var hv)
  refine ⟨⟨fun pins s σ H E I h => (ps_lock (ps_setLc (te := lE X.G false el) (tt := lT X.G t) (g := lG X.G (own.map (·.2)) g) (wi := lI X.G true (iKeysL (sVar j))) hc hN hy hyl hsw hi.run ok (fun a b c d f => (hg a b c d f).run) (fun a b c d f => (ht a b c d f).run) (fun a b c d f => (he a b c d f).run) hs)).run pins s σ H E I ?_⟩, fun a c env k h => ?_⟩
  · obtain ⟨y, dr, F, env, re, hm⟩ := h
    obtain ⟨kvs, q, _, hm⟩ := ownK_some hm
    obtain ⟨o, g1, p, kws, g2, g3, g4, g5⟩ := re.get q
    subst g2
    obtain ⟨hne, hm⟩ := hm
    refine ⟨p, .dK kws, g3, trivial, fun od => ?_⟩
    refine lc_red hi hg ht he ?_
    have r1 := re.lock (od := od) q g1 g3 g4
    refine ⟨y, dr, _, _, r1, lc_mono hi hg ht he _ _ _ (fun xs hx p' vs H' F' r2 x2 hp' fr rv hz => ?_) hm⟩
    obtain ⟨hat, hx⟩ := hx
    have hfz : H' p = some (.frz od (.dK kws)) := r2.rf.sub _ _ (x2.f _ _ upd_same)
    have hpp : p' ≠ p := fun z => by rw [z, hfz] at hp'; cases hp'
    obtain ⟨F3, s3, f3, f4, r3⟩ := re.unlock q g1 g3 g4 r2 x2
    have fr3 : Free y dr F3 env σ p' := ⟨by rw [f3 p' hpp]; exact fr.nF, fr.nH, fr.nd, fun k s h1 h2 h3 => by
      by_cases hk : k = j
      · subst hk
        rw [g1] at h3
        exact hpp (by cases h3; rfl)
      · exact fr.no k s (by rw [List.getElem?_set_ne (Ne.symm hk)]; exact h1) h2 h3⟩
    have hp3 : upd H' p (.dK kws) p' = some (.lst vs) := by rw [upd_ne hpp]; exact hp'
    refine ⟨hfz, hx dr _ _ _ ((r3.freeze fr3 hp3).putV (Rv.lstNew fr3.nF hz (rvs_atom hat rv))) (s3.trans (Ex.fz (dr := dr) (H := H') fr3.nF).f)⟩
  · exact ownK_mono (fun kvs h1 => ⟨h1.1, lc_mono hi hg ht he _ _ _ (fun xs h2 => ⟨h2.1, k.nx _ h2.2⟩) h1.2⟩) h
@[simp] theorem u_sLcD {i j : Nat} {own : List Nat} {K : Ks} {env : En} : sLcD i j own g t el K env = (ownK env j fun kvs => i ≠ j ∧ sLc (iKeysL (sVar j)) own g t el (env.set j (.v (lkD kvs))) fun xs => xs.all atomD = true ∧ K.nx (env.set i (.v (.list xs)))) := rfl
@[simp] theorem u_iKeysL {m : SE} {env : En} {Q : List D → Prop} : iKeysL m env Q = (m env fun d => obK (asLk d) fun kvs => obI (keysI kvs) fun ks => ks.length ≤ 16777216 ∧ Q (dInts ks)) := rfl
end
/-! ### {name: True} as a dict of one's own -/
def sDone (i a : Nat) : SS := fun K env => sVar a env fun z => obY (keyOf z) fun k => K.nx (env.set i (.k [(k, .bool true)]))
section
variable {X : Cx} {pos : Pos}
theorem ms_dOne {i a c0 : Nat} {x z : Str} {pos' dpos npos bpos : Pos} (hN : X.N.Nodup) (hi : X.N[i]? = some x) (hx : Loc X.env.scope x) (hz : PE X (.Name z npos) (tVar a)) (hs : swapsWith (.Dict [some (.Name z npos)] [.Constant (.bool true) c0 bpos] dpos) (some (.Name x pos')) pos.line X.env = pure false := by rfl)
    (hf : X.fn x = true ∨ X.env.scope.names.lookup x = some .local := by first | exact .inl rfl | exact .inr rfl | assumption) : MS X (.Assign [.Name x pos'] (.Dict [some (.Name z npos)] [.Constant (.bool true) c0 bpos] dpos) pos) (sDone i a) := by
  have P := pe_disp (pos := dpos) (pps_cons (pos := dpos) hz (pe_bl (X := X) (b := true) (j := c0) (pos := bpos)) pps_nil) rfl rfl (by simp) (by simp)
  refine ⟨⟨fun pins s σ H E I h => (ps_set hN hi hx P hs hf).run pins s σ H E I ?_⟩, fun a c env k h => ?_⟩
  · obtain ⟨y, dr, F, env, re, hm⟩ := h
    have hv : ∃ d, gv env a = .v d ∧ obY (keyOf d) fun k => (kS X.G y F E).nx (env.set i (.k [(k, .bool true)])) := by
      unfold sDone sVar at hm
      split at hm
      · rename_i d e; exact ⟨d, e, hm⟩
      · exact hm.elim
    obtain ⟨d, qd, hm⟩ := hv
    obtain ⟨o3, g7, v, g8, g9⟩ := re.get (gv_some qd (by simp))
    subst g8
    cases q2 : keyOf d with
    | none => rw [q2] at hm; exact hm.elim
    | some k =>
      rw [q2] at hm
      intro p hp
      have fr := re.free hp
      refine ⟨v, g7, ?_⟩
      show _ ∧ _
      have ev : v = kV k := keyV (b := false) (env := env) (σ := σ) k q2 (.inl g9)
      refine ⟨upd_same, [(k, .bl true)], by rw [ev]; rfl, by simp, ?_⟩
      have e1 : mergeK [] [(k, V.bl true)] = [(k, V.bl true)] := rfl
      rw [e1]
      have e2 : upd (upd H p (.dK [])) p (.dK [(k, V.bl true)]) = upd H p (.dK [(k, V.bl true)]) := by
        funext c
        by_cases hc : c = p
        · subst hc; rw [upd_same, upd_same]
        · rw [upd_ne hc, upd_ne hc, upd_ne hc]
      show E.nx (σ.set i (some (.ref p))) (upd (upd H p (.dK [])) p (.dK [(k, V.bl true)]))
      rw [e2]
      exact hm dr F _ _ ((re.grown hp).put ⟨p, [(k, .bl true)], rfl, upd_same, .cons (.bl true) .nil, fr.nF, fr.nH, fr.nd⟩ fun _ a e j s' _ h1 h2 h3 => by cases e; exact fr.no j s' h1 h2 h3) (Same.refl _)
  · unfold sDone sVar at *
    split
    · rename_i d e
      rw [e] at h
      exact obY_mono (fun q h2 => k.nx _ h2) h
    · rename_i e
      split at h
      · rename_i d e2; exact absurd e2 (e d)
      · exact h
@[simp] theorem u_sDone {i a : Nat} {K : Ks} {env : En} : sDone i a K env = (sVar a env fun z => obY (keyOf z) fun k => K.nx (env.set i (.k [(k, .bool true)]))) := rfl
end
end Mi

namespace Mi
open PySem PySem.Spec L2
/-! ### rows of texts; is of bools; a demonic sieve -/
@[simp] theorem is_bb {i j : Bool} : isD (.bool i) (.bool j) = some (.bool (decide (i = j))) := rfl
@[simp] theorem isn_bb {i j : Bool} : isnD (.bool i) (.bool j) = some (.bool (!decide (i = j))) := rfl
def ltS (a b : Str) : Bool := decide (a.cps.toList < b.cps.toList)
@[simp] theorem lt_s {x z : Str} : ltD (.str x) (.str z) = some (.bool (ltS x z)) := rfl
def dS (ss : List Str) : List D := ss.map PyData.str
theorem dS_nil : dS [] = [] := rfl
theorem dS_cons (s : Str) (ss : List Str) : dS (s :: ss) = .str s :: dS ss := rfl
@[simp] theorem dS_len {ss : List Str} : (dS ss).length = ss.length := List.length_map _
theorem canLay_strs : ∀ ss : List Str, (∀ s ∈ ss, PyData.strOk s = true) → PyData.canLayAll0 (dS ss) = true
  | [], _ => rfl
  | x :: xs, h => by
    show (PyData.canLay0 (.str x) && PyData.canLayAll0 (dS xs)) = true
    rw [canLay_strs xs fun s hs => h s (List.mem_cons_of_mem _ hs), Bool.and_true]
    exact h x (List.mem_cons_self ..)
theorem depth_strs : ∀ ss : List Str, PyData.depthAll (dS ss) = 0
  | [] => rfl
  | x :: xs => by
    show max (PyData.depth (.str x)) (PyData.depthAll (dS xs)) = 0
    rw [depth_strs xs]; rfl
theorem shaped_tS {ss : List Str} (h : ∀ s ∈ ss, PyData.strOk s = true) : SeqAt.shaped (.tuple (dS ss)) = true := by
  have h2 : (PyData.tuple (dS ss)).depth ≤ 64 := by show PyData.depthAll (dS ss) + 1 ≤ 64; rw [depth_strs]; decide
  exact Bool.and_eq_true_iff.mpr ⟨canLay_strs ss h, decide_eq_true h2⟩
theorem shaped_lS {ss : List Str} (h : ∀ s ∈ ss, PyData.strOk s = true) : SeqAt.shaped (.list (dS ss)) = true := by
  have h2 : (PyData.list (dS ss)).depth ≤ 64 := by show PyData.depthAll (dS ss) + 1 ≤ 64; rw [depth_strs]; decide
  exact Bool.and_eq_true_iff.mpr ⟨canLay_strs ss h, decide_eq_true h2⟩
theorem shaped_s {s : Str} (h : PyData.strOk s = true) : SeqAt.shaped (.str s) = true := by
  have h2 : (PyData.str s).depth ≤ 64 := by show (0 : Nat) ≤ 64; decide
  exact Bool.and_eq_true_iff.mpr ⟨h, decide_eq_true h2⟩
theorem any_strs (s : Str) : ∀ ss : List Str, ((dS ss).any fun z => PyData.eqv z (.str s)) = decide (s ∈ ss)
  | [] => rfl
  | x :: xs => by
    show (PyData.eqv (.str x) (.str s) || (dS xs).any fun z => PyData.eqv z (.str s)) = _
    rw [any_strs s xs]
    show ((x == s) || decide (s ∈ xs)) = _
    by_cases h1 : s = x
    · subst h1; simp
    · have : ¬ x = s := fun z => h1 z.symm
      simp [h1, this]
theorem inB_lS {s : Str} {ss : List Str} (h : PyData.strOk s = true) (h2 : ∀ s ∈ ss, PyData.strOk s = true) : inB (.str s) (.list (dS ss)) = some (decide (s ∈ ss)) := by
  rw [← any_strs s ss]
  exact if_pos ⟨shaped_s h, shaped_lS h2⟩
theorem inB_tS {s : Str} {ss : List Str} (h : PyData.strOk s = true) (h2 : ∀ s ∈ ss, PyData.strOk s = true) : inB (.str s) (.tuple (dS ss)) = some (decide (s ∈ ss)) := by
  rw [← any_strs s ss]
  exact if_pos ⟨shaped_s h, shaped_tS h2⟩
theorem in_lS {s : Str} {ss : List Str} (h : PyData.strOk s = true) (h2 : ∀ s ∈ ss, PyData.strOk s = true) : inD (.str s) (.list (dS ss)) = some (.bool (decide (s ∈ ss))) := by unfold inD; rw [inB_lS h h2]; rfl
theorem in_tS {s : Str} {ss : List Str} (h : PyData.strOk s = true) (h2 : ∀ s ∈ ss, PyData.strOk s = true) : inD (.str s) (.tuple (dS ss)) = some (.bool (decide (s ∈ ss))) := by unfold inD; rw [inB_tS h h2]; rfl
theorem nin_lS {s : Str} {ss : List Str} (h : PyData.strOk s = true) (h2 : ∀ s ∈ ss, PyData.strOk s = true) : ninD (.str s) (.list (dS ss)) = some (.bool (!decide (s ∈ ss))) := by unfold ninD; rw [inB_lS h h2]; rfl
theorem nin_tS {s : Str} {ss : List Str} (h : PyData.strOk s = true) (h2 : ∀ s ∈ ss, PyData.strOk s = true) : ninD (.str s) (.tuple (dS ss)) = some (.bool (!decide (s ∈ ss))) := by unfold ninD; rw [inB_tS h h2]; rfl
theorem pl_strs {n : Nat} {ss : List Str} (h : ss.length ≤ 16777216) : pl (n + 2) (.list (dS ss)) = true ∧ pl (n + 2) (.tuple (dS ss)) = true := by
  have : (dS ss).all (pl (n + 1)) = true := by
    rw [List.all_eq_true]
    intro d hd
    obtain ⟨i, _, rfl⟩ := List.mem_map.mp hd
    rfl
  simp only [pl]
  rw [this]
  simp
  exact h
/-- a sieve that nobody foresees: some row of the row's members, in their order -/
theorem lc_sub {α : Type} {enc : α → D} {g : SG} {t : SB} {el : SE} {env : En} {f : α → D} : ∀ (xs : List α) (Q : List D → Prop),
    (∀ a ∈ xs, ∀ (R : D → Prop) (S : Prop), R (f a) → S → g (enc a) env fun e1 => t e1 fun k => if k = true then el e1 R else S) → (∀ zs : List α, zs.Sublist xs → Q (zs.map f)) → lcGo g t el env (xs.map enc) Q
  | [], Q, _, h => h [] (List.Sublist.refl _)
  | a :: xs, Q, hs, h => hs a (by simp) _ _
      (lc_sub xs _ (fun b hb => hs b (by simp [hb])) fun zs hz => h (a :: zs) (hz.cons_cons a))
      (lc_sub xs _ (fun b hb => hs b (by simp [hb])) fun zs hz => h zs (hz.cons a))
/-! neighbours -/
theorem zipL_map {α β : Type} (f : α → D) (g : β → D) : ∀ (xs : List α) (ys : List β), zipL (xs.map f) (ys.map g) = (xs.zip ys).map fun p => .tuple [f p.1, g p.2]
  | [], _ => by simp [zipL]
  | _ :: _, [] => by simp [zipL]
  | x :: xs, y :: ys => by
    show PyData.tuple [f x, g y] :: zipL (xs.map f) (ys.map g) = _
    rw [zipL_map f g xs ys]; rfl
theorem cut_1 {α : Type} (xs : List α) : cut xs (some 1) none = xs.drop 1 := cut_from (by omega)
def pairs {α : Type} (xs : List α) : List (α × α) := xs.zip (xs.drop 1)
theorem zipL_pairs {α : Type} (f : α → D) (xs : List α) : zipL (xs.map f) (cut (xs.map f) (some 1) none) = (pairs xs).map fun p => .tuple [f p.1, f p.2] := by
  rw [cut_1, ← List.map_drop, zipL_map]; rfl
theorem pairs_all {α : Type} {R : α → α → Prop} : ∀ {xs : List α}, xs.Pairwise R → ∀ p ∈ pairs xs, R p.1 p.2
  | [], _, p, hp => by cases hp
  | [_], _, p, hp => by cases hp
  | a :: b :: xs, h, p, hp => by
    have e : pairs (a :: b :: xs) = (a, b) :: pairs (b :: xs) := rfl
    rw [e] at hp
    rcases List.mem_cons.mp hp with rfl | hp
    · exact (List.pairwise_cons.mp h).1 b (by simp)
    · exact pairs_all (List.pairwise_cons.mp h).2 p hp
end Mi

namespace Mi
open PySem PySem.Spec L2
/-! ### dicts that stay as they are: locked for good -/
def tFrz (t : TS) : TS := fun E σ H => ∃ d u, H d = some u ∧ Mut (some u) ∧ ∀ od, t E σ (upd H d (.frz od u))
def tFrzE (t : TE) : TE := fun σ H Q => t σ H fun v H' => ∃ d u, H' d = some u ∧ Mut (some u) ∧ ∀ od, Q v (upd H' d (.frz od u))
section
variable {X : Cx} {st : Stmt}
theorem ps_frz {t : TS} (h : PS X st t) : PS X st (tFrz t) := by
  refine ⟨fun pins s σ H D I hw => ?_⟩
  obtain ⟨d, u, hd, mu, hw⟩ := hw
  obtain ⟨od, I1⟩ := I.lock hd mu
  exact h.run pins s σ _ D I1 (hw od)
theorem pe_frz {e : Expr} {t : TE} (h : PE X e t) : PE X e (tFrzE t) := by
  refine ⟨fun pins s σ H Q I hw => ?_⟩
  refine thn (h.run pins s σ H _ I hw) fun v s1 ⟨x, H1, I1, r, d, u, hd, mu, q⟩ => ?_
  obtain ⟨od, I2⟩ := I1.lock hd mu
  exact ⟨x, _, I2, r, q od⟩
end
/-- an own dict is frozen ahead of the statement -/
def fzL (i : Nat) (env : En) : En := match gv env i with
  | .k kvs => env.set i (.v (lkD kvs))
  | _ => env
def sFzD (i : Nat) (m : SS) : SS := fun K env => m K (fzL i env)
theorem ms_fzD {X : Cx} {st : Stmt} {m : SS} (i : Nat) (h : MS X st m) : MS X st (sFzD i m) := by
  refine ⟨⟨fun pins s σ H E I hq => ?_⟩, fun a c env k hq => h.mono _ _ _ k hq⟩
  obtain ⟨y, dr, F, env, re, hm⟩ := hq
  have hm : m _ (fzL i env) := hm
  cases q0 : gv env i with
  | k kvs =>
    have e0 : fzL i env = env.set i (.v (lkD kvs)) := by unfold fzL; rw [q0]
    rw [e0] at hm
    have q := gv_k q0
    refine (ps_frz h.run).run pins s σ H E I ?_
    obtain ⟨o, g1, p, kws, g2, g3, g4, g5⟩ := re.get q
    subst g2
    refine ⟨p, .dK kws, g3, trivial, fun od => ?_⟩
    have r1 := re.lock (od := od) q g1 g3 g4
    obtain ⟨a, e1, _, e3, _, _⟩ := (re.slot i _ _ q g1).there rfl
    cases e1
    exact ⟨y, dr, _, _, r1, h.mono _ _ _ (kS_mono (upd_grow e3)) hm⟩
  | _ =>
    have e0 : fzL i env = env := by unfold fzL; rw [q0]
    rw [e0] at hm
    exact h.run.run pins s σ H E I ⟨y, dr, F, env, re, hm⟩
/-! ### a new dict -/
abbrev SK := En → (List (Key × D) → Prop) → Prop
def lFK (K : Fg) (m : SK) : TE := fun σ H Q => ∃ y dr F env, Re K y dr F env σ H ∧ m env fun kvs => ∀ p kws H' F', Re K y dr F' env σ H' → Ex dr F H F' H' → H p = none → H' p = some (.dK kws) → Free y dr F' env σ p → Rks K F' (kdD kvs) kws → Q (.ref p) H'
structure MK (X : Cx) (e : Expr) (m : SK) : Prop where
  run : PE X e (lFK X.G m)
  mono : ∀ env (P Q : List (Key × D) → Prop), (∀ d, P d → Q d) → m env P → m env Q
/-- a new object's address, locked -/
theorem Re.lockNew {K : Fg} {y : Cy} {dr : Option Addr} {F H : Hp} {env : En} {σ : L2.St} {p : Addr} {kws : List (Key × V)} {od : Obj} (re : Re K y dr F env σ H) (hp : H p = some (.dK kws)) (fr : Free y dr F env σ p) :
    Re K y dr (upd F p (.frz od (.dK kws))) env σ (upd H p (.frz od (.dK kws))) := by
  have sF : Same F (upd F p (.frz od (.dK kws))) := upd_grow fr.nF
  have kp : ∀ b, b ≠ p → upd H p (.frz od (.dK kws)) b = H b := fun b hb => upd_ne hb
  refine ⟨⟨fun b u e => ?_, re.rf.sup.trans sF, fun b hb => ?_, fun b u e n => ?_, fun b hb => ?_, fun b hb => ?_, re.rf.drs, re.rf.drn⟩, re.len, fun i s o g1 g2 => ?_, re.sep⟩
  · by_cases hb : b = p
    · subst hb; rw [upd_same] at e ⊢; exact e
    · rw [upd_ne hb] at e ⊢; exact re.rf.sub b u e
  · by_cases hbp : b = p
    · subst hbp; exact .inr fr.nH
    · rw [upd_ne hbp] at hb; exact re.rf.new b hb
  · have hb : b ≠ p := fun z => by rw [z, fr.nH] at e; cases e
    rw [kp b hb]; exact re.rf.gr b u e n
  · have hbp : b ≠ p := fun z => by rw [z, fr.nH] at hb; exact hb rfl
    rw [kp b hbp]; exact re.rf.dom b hb
  · obtain ⟨q1, q2⟩ := re.rf.drw b hb
    have hbp : b ≠ p := fun z => fr.nd (by rw [← z]; exact hb.symm)
    exact ⟨by rw [upd_ne hbp]; exact q1, (q2.mono sF).at (kp b hbp)⟩
  · refine (re.slot i s o g1 g2).keep sF fun a ha w => ?_
    obtain ⟨c, w1, _, w3, w4, _⟩ := (re.slot i s o g1 g2).there w
    rw [ha] at w1; cases w1
    have : a ≠ p := fun z => by
      subst z
      exact fr.no i s g1 w (by rw [g2, ha])
    exact ⟨kp a this, by rw [upd_ne this]; exact w3, w4⟩
def sFk (m : SK) : SE := fun env Q => m env fun kvs => Q (lkD kvs)
section
variable {X : Cx} {b b' : Bool} {a c e f o tg iter : Expr} {ma mc me mo mi mv : SE} {pos apos cpos npos : Pos}
/-- a new dict that is never changed -/
theorem me_fk {m : SK} (h : MK X e m) : ME X b e (sFk m) := by
  refine ⟨⟨fun pins s σ H Q I hq => (pe_frz h.run).run pins s σ H Q I ?_⟩, fun env P Q k hp => h.mono _ _ _ (fun d h1 => k _ h1) hp⟩
  obtain ⟨y, dr, F, env, re, hm⟩ := hq
  refine ⟨y, dr, F, env, re, h.mono _ _ _ (fun kvs hd p kws H' F' r1 s1 hn hp fr rv => ?_) hm⟩
  refine ⟨p, .dK kws, hp, trivial, fun od => ?_⟩
  have sF : Same F' (upd F' p (.frz od (.dK kws))) := upd_grow fr.nF
  refine hd _ _ _ (r1.lockNew hp fr) ⟨s1.f.trans sF, fun c o e n => ?_⟩ (.inl (.dil upd_same (rv.mono sF)))
  have hc : c ≠ p := fun z => ?_
  · rw [upd_ne hc]; exact s1.k c o e n
  · subst z
    rw [hn] at e; cases e
theorem Ex.none {dr : Option Addr} {F H F' H' : Hp} {p : Addr} (x : Ex dr F H F' H') (nd : some p ≠ dr) (hp : H' p = none) : H p = none := by
  cases q : H p with
  | none => rfl
  | some o => have := x.k p o q nd; rw [hp] at this; cases this
def sOwnD (i : Nat) (m : SK) : SS := fun K env => m env fun kvs => K.nx (env.set i (.k kvs))
theorem ms_ownD {i : Nat} {x : Str} {pos' : Pos} {ml : SK} (hN : X.N.Nodup) (hi : X.N[i]? = some x) (hx : Loc X.env.scope x) (ha : MK X a ml) (hs : swapsWith a (some (.Name x pos')) pos.line X.env = pure false := by rfl)
    (hf : X.fn x = true ∨ X.env.scope.names.lookup x = some .local := by first | exact .inl rfl | exact .inr rfl | assumption) : MS X (.Assign [.Name x pos'] a pos) (sOwnD i ml) := by
  refine ⟨⟨fun pins s σ H E I h => (ps_set hN hi hx ha.run hs hf).run pins s σ H E I ?_⟩, fun a c env k h => ha.mono _ _ _ (fun _ q => k.nx _ q) h⟩
  obtain ⟨y, dr, F, env, re, hm⟩ := h
  refine ⟨y, dr, F, env, re, ha.mono _ _ _ (fun kvs hd p kws H' F' r1 s1 hn hp fr rv => ?_) hm⟩
  exact hd dr F' _ H' (r1.put ⟨p, kws, rfl, hp, rv, fr.nF, fr.nH, fr.nd⟩ fun _ a e j s' _ h1 h2 h3 => by cases e; exact fr.no j s' h1 h2 h3) s1.f
/-! {} -/
def sDnil : SK := fun _ Q => Q []
theorem mk_nil : MK X (.Dict [] [] pos) sDnil := by
  refine ⟨⟨fun pins s σ H Q I hq => pe_dnewK.run pins s σ H Q I ?_⟩, fun env P Q k hp => k _ hp⟩
  obtain ⟨y, dr, F, env, re, hm⟩ := hq
  exact fun p hp => hm p [] _ F (re.grown hp) (Ex.grown hp) hp upd_same (re.free hp) .nil
/-! dict of a list of pairs -/
def pairsOf : List D → Option (List (Key × D))
  | [] => some []
  | .tuple [k, d] :: r => (keyOf k).bind fun k => (pairsOf r).map fun l => (k, d) :: l
  | _ :: _ => none
def mergeG (kvs more : List (Key × D)) : List (Key × D) := more.foldl (fun acc kv => putG acc kv.1 kv.2) kvs
def sPairs (m : SE) : SK := fun env Q => m env fun d => match d with
  | .list xs => obK (pairsOf xs) fun kvs => Q (mergeG [] kvs)
  | _ => False
theorem rks_merge {K : Fg} {F : Hp} : ∀ {more : List (Key × D)} {mws : List (Key × V)} {kvs : List (Key × D)} {kws : List (Key × V)}, Rks K F (kdD more) mws → Rks K F (kdD kvs) kws → Rks K F (kdD (mergeG kvs more)) (mergeK kws mws)
  | [], _, _, _, h, h2 => by cases h; exact h2
  | (k, d) :: r, mws, kvs, kws, h, h2 => by
    obtain ⟨k', v, vs, e, rfl, rv, h3⟩ := rks_inv h
    have e := kD_inj e
    subst e
    show Rks K F (kdD (mergeG (putG kvs k d) r)) (mergeK (putK kws k v) vs)
    exact rks_merge h3 (rks_put rv h2)
theorem pairs_rvs {K : Fg} {y : Cy} {dr : Option Addr} {F H : Hp} {env : En} {σ : L2.St} (re : Re K y dr F env σ H) : ∀ {xs : List D} {vs : List V} {kvs : List (Key × D)}, pairsOf xs = some kvs → Rvs K F xs vs → ∃ (ps : List Addr) (kws : List (Key × V)), vs = ps.map V.ref ∧ Paired (fun p kv => SqT K H p [kV kv.1, kv.2]) ps kws ∧ Rks K F (kdD kvs) kws
  | [], _, kvs, h, r => by
    cases r; cases h
    exact ⟨[], [], rfl, .nil, .nil⟩
  | x :: xs, vs, kvs, h, r => by
    cases r with
    | cons w rr =>
      cases x with
      | tuple zs =>
        match zs, h, w with
        | [k, d], h, w =>
          have h : (keyOf k).bind (fun k => (pairsOf xs).map fun l => (k, d) :: l) = some kvs := h
          cases q : keyOf k with
          | none => rw [q] at h; cases h
          | some k2 =>
            rw [q] at h
            have h : (pairsOf xs).map (fun l => (k2, d) :: l) = some kvs := h
            cases q2 : pairsOf xs with
            | none => rw [q2] at h; cases h
            | some l =>
              rw [q2] at h
              cases h
              obtain ⟨ps, kws, rfl, h1, h2⟩ := pairs_rvs re q2 rr
              cases w with
              | tup s1 s2 s3 =>
                cases s3 with
                | cons wk wd =>
                  cases wd with
                  | cons wd wn =>
                    cases wn
                    have e := keyOf_eq q
                    subst e
                    have ek : ∀ {v}, Rv K F (kD k2) v → v = kV k2 := fun {v} w => by
                      cases k2 with
                      | inl i => cases w; rfl
                      | inr s => cases w; rfl
                    have := ek wk
                    subst this
                    exact ⟨_ :: ps, (k2, _) :: kws, rfl, .cons (re_tuple re s1) h1, .cons wd h2⟩
        | [], h, w => cases h
        | [_], h, w => cases h
        | _ :: _ :: _ :: _, h, w => cases h
      | _ => cases h
theorem mk_pairs {p : Pos} (hc : X.calm = true) (hg : Gl X "dict") (hm : X.mg "dict" = none) (ha : ME X true a ma) (he : starEach [a] X.env = (false, eval a X.env) :: starEach [] X.env := by rfl) (hpl : (backTo pos (starEach [] X.env)).any (·.1) = false := by rfl) :
    MK X (.Call (.Name "dict" p) [a] [] pos) (sPairs ma) := by
  refine ⟨⟨fun pins s σ H Q I hq => (pe_callTy (call_dictP hc) hg hm (by decide +kernel) (pa_cons ha.run pa_nil he) (by decide) (by decide) he hpl).run pins s σ H Q I ?_⟩, fun env P Q k hp => ha.mono _ _ _ (fun d h1 => ?_) hp⟩
  · obtain ⟨y, dr, F, env, re, hm⟩ := hq
    refine ⟨y, dr, F, env, re, ha.mono _ _ _ (fun d1 h1 v1 H1 F1 r1 s1 w1 => ?_) hm⟩
    cases d1 with
    | list xs =>
      have h1 : obK (pairsOf xs) _ := h1
      cases q : pairsOf xs with
      | none => rw [q] at h1; exact h1.elim
      | some kvs =>
        rw [q] at h1
        obtain ⟨l, vs, rfl, hl, hz, rv, nd, _⟩ := w1.listD r1
        obtain ⟨ps, kws, rfl, h2, h3⟩ := pairs_rvs r1 q rv
        exact ⟨l, ps, kws, rfl, SqL.of hl, h2, fun p2 hp2 => h1 p2 _ _ F1 (r1.grown hp2) (s1.trans (Ex.grown hp2)) (s1.none (r1.free hp2).nd hp2) upd_same (r1.free hp2) (rks_merge h3 .nil)⟩
    | _ => exact h1.elim
  · cases d with
    | list xs => exact obK_mono (fun kvs h => k _ h) h1
    | _ => exact h1.elim
/-! k in d, k not in d -/
def sDin (n : Bool) (mi mo : SE) : SE := fun env Q => mi env fun z => mo env fun x => obK (asK x) fun kvs => obY (keyOf z) fun k => Q (.bool (if n then !(getG kvs k).isSome else (getG kvs k).isSome))
theorem din_red {σ : L2.St} {H : Hp} {Q : VK} (hi : ME X true e mi) (ho : ME X true o mo) (h : lE X.G b' (sDin false mi mo) σ H Q) : tDIn (lE X.G true mi) (lE X.G true mo) σ H Q := by
  obtain ⟨y, dr, F, env, re, hm⟩ := h
  refine ⟨y, dr, F, env, re, hi.mono _ _ _ (fun d2 h2 v2 H2 F2 r2 s2 w2 => ?_) hm⟩
  refine ⟨y, dr, F2, env, r2, ho.mono _ _ _ (fun d1 h1 v1 H1 F1 r1 s1 w1 => ?_) h2⟩
  cases q : asK d1 with
  | none => rw [q] at h1; exact h1.elim
  | some kvs =>
    rw [q] at h1
    have h1 : obY (keyOf d2) _ := h1
    obtain ⟨p, kws, rfl, e1, e2⟩ := w1.asK r1 q
    cases q2 : keyOf d2 with
    | none => rw [q2] at h1; exact h1.elim
    | some k =>
      rw [q2] at h1
      have h1 : ∀ v H' F', _ := h1
      rcases rks_get k e2 with ⟨d, v, g1, g2, g3⟩ | ⟨g1, g2⟩
      · rw [g1] at h1
        exact ⟨p, some v, rfl, .inl ⟨kws, k, e1, keyV k q2 (w2.mono s1), g2.symm⟩, h1 _ H1 F1 r1 (s2.trans s1) (.inl (.bl _))⟩
      · rw [g1] at h1
        exact ⟨p, none, rfl, .inl ⟨kws, k, e1, keyV k q2 (w2.mono s1), g2.symm⟩, h1 _ H1 F1 r1 (s2.trans s1) (.inl (.bl _))⟩
theorem dnin_red {σ : L2.St} {H : Hp} {Q : VK} (hi : ME X true e mi) (ho : ME X true o mo) (h : lE X.G b' (sDin true mi mo) σ H Q) : tDNotIn (lE X.G true mi) (lE X.G true mo) σ H Q := by
  obtain ⟨y, dr, F, env, re, hm⟩ := h
  refine ⟨y, dr, F, env, re, hi.mono _ _ _ (fun d2 h2 v2 H2 F2 r2 s2 w2 => ?_) hm⟩
  refine ⟨y, dr, F2, env, r2, ho.mono _ _ _ (fun d1 h1 v1 H1 F1 r1 s1 w1 => ?_) h2⟩
  cases q : asK d1 with
  | none => rw [q] at h1; exact h1.elim
  | some kvs =>
    rw [q] at h1
    have h1 : obY (keyOf d2) _ := h1
    obtain ⟨p, kws, rfl, e1, e2⟩ := w1.asK r1 q
    cases q2 : keyOf d2 with
    | none => rw [q2] at h1; exact h1.elim
    | some k =>
      rw [q2] at h1
      have h1 : ∀ v H' F', _ := h1
      rcases rks_get k e2 with ⟨d, v, g1, g2, g3⟩ | ⟨g1, g2⟩
      · rw [g1] at h1
        exact ⟨p, some v, rfl, .inl ⟨kws, k, e1, keyV k q2 (w2.mono s1), g2.symm⟩, h1 _ H1 F1 r1 (s2.trans s1) (.inl (.bl _))⟩
      · rw [g1] at h1
        exact ⟨p, none, rfl, .inl ⟨kws, k, e1, keyV k q2 (w2.mono s1), g2.symm⟩, h1 _ H1 F1 r1 (s2.trans s1) (.inl (.bl _))⟩
theorem din_mono {n : Bool} (hi : ME X true e mi) (ho : ME X true o mo) (env : En) (P Q : D → Prop) (k : ∀ d, P d → Q d) (h : sDin n mi mo env P) : sDin n mi mo env Q := hi.mono _ _ _ (fun z hz => ho.mono _ _ _ (fun d hd => obK_mono (fun kvs h1 => obY_mono (fun q h2 => k _ h2) h1) hd) hz) h
theorem me_din (hu : X.A.units + 65 < cLine) (hi : ME X true e mi) (ho : ME X true o mo) (h1 : behindInMarks .In o = false := by rfl) : ME X b' (.Compare e [.In] [o] pos) (sDin false mi mo) :=
  ⟨⟨fun pins s σ H Q I h => (pe_cmp (pc_din (hu1 hu) hi.run ho.run) h1).run pins s σ H Q I (din_red hi ho h)⟩, din_mono hi ho⟩
theorem me_dnin (hu : X.A.units + 65 < cLine) (hi : ME X true e mi) (ho : ME X true o mo) (h1 : behindInMarks .NotIn o = false := by rfl) : ME X b' (.Compare e [.NotIn] [o] pos) (sDin true mi mo) :=
  ⟨⟨fun pins s σ H Q I h => (pe_cmp (pc_dnotin (hu1 hu) hi.run ho.run) h1).run pins s σ H Q I (dnin_red hi ho h)⟩, din_mono hi ho⟩
theorem mt_din (hu : X.A.units + 65 < cLine) (hi : ME X true e mi) (ho : ME X true o mo) (h1 : behindInMarks .In o = false := by rfl) : MT X (.Compare e [.In] [o] pos) (sTB (sDin false mi mo)) :=
  ⟨⟨fun pins s σ H Q I h => (pt_cmp (pc_din (hu1 hu) hi.run ho.run) h1).run pins s σ H Q I (din_red hi ho (tb_red (din_mono hi ho) h))⟩, tb_mono (me_din (b' := true) (pos := pos) hu hi ho h1)⟩
theorem mt_dnin (hu : X.A.units + 65 < cLine) (hi : ME X true e mi) (ho : ME X true o mo) (h1 : behindInMarks .NotIn o = false := by rfl) : MT X (.Compare e [.NotIn] [o] pos) (sTB (sDin true mi mo)) :=
  ⟨⟨fun pins s σ H Q I h => (pt_cmp (pc_dnotin (hu1 hu) hi.run ho.run) h1).run pins s σ H Q I (dnin_red hi ho (tb_red (din_mono hi ho) h))⟩, tb_mono (me_dnin (b' := true) (pos := pos) hu hi ho h1)⟩
/-! for k in d, d.values(), d.items(): d locked -/
def klen : Key → Prop
  | .inl _ => True
  | .inr s => s.length ≤ 16777216
theorem rv_key {K : Fg} {F : Hp} {k : Key} (h : klen k) : Rv K F (kD k) (kV k) := by
  cases k with
  | inl i => exact .int i
  | inr s => exact .str s (by rw [sizeLine_eq]; exact h)
theorem rks_at {K : Fg} {F : Hp} {k : Key} {v : V} : ∀ {kvs : List (Key × D)} {kws : List (Key × V)} {i : Nat}, Rks K F (kdD kvs) kws → kws[i]? = some (k, v) → ∃ d, kvs[i]? = some (k, d) ∧ Rv K F d v
  | [], _, i, h, e => by cases h; cases e
  | (k0, d0) :: r, kws, i, h, e => by
    obtain ⟨k', v', vs, e0, rfl, rv, h3⟩ := rks_inv h
    have e0 := kD_inj e0
    subst e0
    cases i with
    | zero => cases e; exact ⟨d0, rfl, rv⟩
    | succ i => exact rks_at (i := i) h3 e
def iKeysG (m : SE) : SI := fun env Q => m env fun d => obK (asLk d) fun kvs => (kvs.length ≤ 16777216 ∧ ∀ p ∈ kvs, klen p.1) ∧ Q (kvs.map fun p => kD p.1)
def iValsG (m : SE) : SI := fun env Q => m env fun d => obK (asLk d) fun kvs => kvs.length ≤ 16777216 ∧ Q (kvs.map fun p => p.2)
def iItemsG (m : SE) : SI := fun env Q => m env fun d => obK (asLk d) fun kvs => (kvs.length ≤ 16777216 ∧ ∀ p ∈ kvs, klen p.1) ∧ Q (kvs.map fun p => .tuple [kD p.1, p.2])
theorem mi_keysG (ha : ME X b a ma) : MI X b tg a (iKeysG ma) := by
  refine ⟨⟨fun pins s σ H R I h => (pi_keys ha.run).run pins s σ H R I ?_⟩, fun env P Q k h => ha.mono _ _ _ (fun d hd => obK_mono (fun kvs h1 => ⟨h1.1, k _ h1.2⟩) hd) h⟩
  obtain ⟨y, dr, F, env, re, hm⟩ := h
  refine ⟨y, dr, F, env, re, ha.mono _ _ _ (fun d hd v H' F' r1 s1 w => ?_) hm⟩
  cases q : asLk d with
  | none => rw [q] at hd; exact hd.elim
  | some kvs =>
    rw [q] at hd
    obtain ⟨p, o, kws, rfl, e1, e2⟩ := w.asLk r1 q
    have hH : H' p = some (.frz o (.dK kws)) := r1.rf.sub _ _ e1
    have hl : kws.length = kvs.length := rks_len e2
    have nd : some p ≠ dr := fun e => by rw [(r1.rf.drw _ e.symm).1] at e1; cases e1
    refine ⟨p, o, rfl, .inl ⟨kws, hH, ?_⟩⟩
    obtain ⟨⟨hz, hk⟩, hd⟩ := hd
    have hd : ∀ J H'' F'' G Y, _ := hd
    refine hd (Itk p o kws) H' F' (fun H1 => H1 p = some (.frz o (.dK kws))) (fun i H1 x H2 => H2 = H1 ∧ ∃ k v, kws[i]? = some (k, v) ∧ x = kV k) r1 s1 (by rw [List.length_map, sizeLine_eq]; exact hz) ?_ ⟨fun _ H1 s => s _ _ e1, fun _ H1 k => k _ _ hH nd⟩ ?_
    · rw [List.length_map, ← hl]
      exact ⟨fun i H hi h => ⟨h, hi⟩, fun H h => ⟨h, Nat.le_refl _⟩, fun i H x H2 _ _ h => h⟩
    · rintro i H1 x H2 hi _ ⟨rfl, k, v, hkv, rfl⟩ y1 dr1 F1 env1 σ1 re1 sm
      obtain ⟨d, g1, g2⟩ := rks_at e2 hkv
      exact ⟨F1, Ex.refl, re1, ⟨kD k, by rw [List.getElem?_map, g1]; rfl, rv_key (hk _ (List.mem_of_getElem? g1))⟩, Same.refl _, fun _ h _ => h⟩
theorem mi_valsG (ha : ME X b a ma) (hbase : attributeBase a "values" X.env (eval a X.env) = eval a X.env := by rfl) (hline : (apos.endLine == cpos.line) = true := by rfl) : MI X b tg (.Call (.Attribute a "values" apos) [] [] cpos) (iValsG ma) := by
  refine ⟨⟨fun pins s σ H R I h => (pi_values ha.run hbase hline).run pins s σ H R I ?_⟩, fun env P Q k h => ha.mono _ _ _ (fun d hd => obK_mono (fun kvs h1 => ⟨h1.1, k _ h1.2⟩) hd) h⟩
  obtain ⟨y, dr, F, env, re, hm⟩ := h
  refine ⟨y, dr, F, env, re, ha.mono _ _ _ (fun d hd v H' F' r1 s1 w => ?_) hm⟩
  cases q : asLk d with
  | none => rw [q] at hd; exact hd.elim
  | some kvs =>
    rw [q] at hd
    obtain ⟨p, o, kws, rfl, e1, e2⟩ := w.asLk r1 q
    have hH : H' p = some (.frz o (.dK kws)) := r1.rf.sub _ _ e1
    have hl : kws.length = kvs.length := rks_len e2
    have nd : some p ≠ dr := fun e => by rw [(r1.rf.drw _ e.symm).1] at e1; cases e1
    refine ⟨p, o, kws, rfl, hH, ?_⟩
    obtain ⟨hz, hd⟩ := hd
    have hd : ∀ J H'' F'' G Y, _ := hd
    refine hd (Itd p o kws) H' F' (fun H1 => H1 p = some (.frz o (.dK kws))) (fun i H1 x H2 => H2 = H1 ∧ ∃ k, kws[i]? = some (k, x)) r1 s1 (by rw [List.length_map, sizeLine_eq]; exact hz) ?_ ⟨fun _ H1 s => s _ _ e1, fun _ H1 k => k _ _ hH nd⟩ ?_
    · rw [List.length_map, ← hl]
      exact ⟨fun i H hi h => ⟨h, hi⟩, fun H h => ⟨h, Nat.le_refl _⟩, fun i H x H2 _ _ h => h⟩
    · rintro i H1 x H2 hi _ ⟨rfl, k, hkv⟩ y1 dr1 F1 env1 σ1 re1 sm
      obtain ⟨d, g1, g2⟩ := rks_at e2 hkv
      exact ⟨F1, Ex.refl, re1, ⟨d, by rw [List.getElem?_map, g1]; rfl, g2.mono sm⟩, Same.refl _, fun _ h _ => h⟩
/-- turns over d.items(): each pair a known object -/
def Itp (d : Addr) (o : Obj) (kvs : List (Key × V)) : It :=
  ⟨(Iti d o kvs).go, fun i H x H' => ∃ T k v ot, TuO ot ∧ kvs[i]? = some (k, v) ∧ x = .ref T ∧ H T = none ∧ H' = upd H T (.frz ot (.tup [kV k, v])), (Iti d o kvs).stop⟩
theorem turn_itp {P : Program} {w : World} {K : PySem.W.Frag} {d : Addr} {o : Obj} {es : Array DictEntry} {ep : Nat} {kvs : List (Key × V)} {elts : List Expr} {kk : Nat} {tpos : Pos} (it : Addr) (hod : o.data = .dict es ep) :
    Turn P w K (.Tuple elts kk tpos) (Itp d o kvs) [it] it (fun i h => ∃ ok ov, IsItemIter h it d i kvs.length ep ok ov) := by
  have W : Turn P w K (.Tuple elts kk tpos) (Iti d o kvs) [it] it (fun i h => ∃ ok ov, IsItemIter h it d i kvs.length ep ok ov) := turn_items it hod
  refine ⟨W.mem, W.obj, W.keep, ?_, W.done, W.self⟩
  intro X hP hw hK hc i pins s σ H E I hf st hg
  subst hP hw hK
  obtain ⟨hd, hi⟩ := hg
  obtain ⟨hs, _, _, es2, ep2, vs, hdt, _, kv, hm⟩ := I.frzK hd
  obtain ⟨rfl, rfl⟩ := dict_ep hod hdt
  have lv := Paired.length kv
  obtain ⟨u, hu, ru⟩ := kv_get kv (k := kvs[i].1) (v := kvs[i].2) (List.getElem?_eq_getElem hi)
  obtain ⟨ok, ov, he⟩ := st
  rw [lv] at he
  have hlt := Heap.lt_size he
  refine wpAny_pyNext_items_item he hm hu fun key h1 hkey ho hT hz hk => ⟨_, rfl, wpAny_letOwnedTupleGo_items (s := { s with heap := h1 }) ho fun h2 he2 sb => ?_⟩
  have hT2 : h2.get? s.heap.objs.size = some (nT [key, u]) := (sb.2 _ (Nat.ne_of_gt hlt)).trans hT
  refine ⟨.ref s.heap.objs.size, upd H s.heap.objs.size (.frz (nT [key, u]) (.tup [kV kvs[i].1, kvs[i].2])), I.turnedNew (t' := s.toks) (ch := [it]) (fun c q hc q1 => ?_) hf (Nat.le_refl _) (okT (.cons (relV_key hkey) (.cons ru .nil)) (by show 2 ≤ sizeLine; decide) hT2), rfl,
    ⟨_, _, _, _, nT_TuO _, List.getElem?_eq_getElem hi, rfl, I.hok.fresh (Nat.le_refl _), rfl⟩, ⟨key, u, by rw [lv]; exact he2⟩, fun c hc => ?_⟩
  · have n : c ≠ it := by simpa using hc
    exact (sb.2 c n).trans (hk c q n q1)
  · obtain rfl : c = it := by simpa using hc
    rw [upd_ne (Nat.ne_of_lt hlt)]
    exact (hf c (by simp)).1
def iItp (td : TE) : TI := fun σ H R => td σ H fun x H1 => ∃ d o kvs, x = .ref d ∧ H1 d = some (.frz o (.dK kvs)) ∧ R (Itp d o kvs) H1
open PyProof.Rows in
theorem pi_itp {X : Cx} {e : Expr} {td : TE} {apos cpos : Pos} {elts : List Expr} {kk : Nat} {tpos : Pos} (he : PE X e td) (hbase : attributeBase e "items" X.env (eval e X.env) = eval e X.env := by rfl) (hline : (apos.endLine == cpos.line) = true := by rfl) :
    PI X (.Tuple elts kk tpos) (.Call (.Attribute e "items" apos) [] [] cpos) (iItp td) := by
  refine ⟨fun pins s σ H R I h => ?_⟩
  refine wpAny_Call_method (T := "dict") (id := "dict.items") hbase rfl hline F.plainAttrs_dict F.slot_dict_items F.type_dict_items (thn (he.run pins s σ H _ I h) fun u s1 ⟨x, H1, J, rx, d, o, kvs, ex, hd, q⟩ => ?_)
  cases ex
  cases rx
  obtain ⟨hs, _, _, es, ep, vs, hdt, _, kv, hm⟩ := J.frzK hd
  have D := hm.dictOf
  refine ⟨D.typeIs, D.mapOf.noDict, ?_⟩
  generalize hv : ({ cls := .type "dict_items", data := .fields #[.ref d] } : Obj) = vo
  have ev : (s1.heap.push vo).get? s1.heap.objs.size = some vo := Heap.get?_push_size _ (by rw [← hv]; rfl)
  have J2 : Inv X pins σ H1 { s1 with heap := s1.heap.push vo } := J.kept (t' := s1.toks) fun c q q1 => Heap.get?_push_of_some _ q1
  have fin : wpAny (model X.prog X.w) X.A (pyIter (.ref s1.heap.objs.size)) (PIE X pins σ (.Tuple elts kk tpos) R) X.xe { s1 with heap := s1.heap.push vo } := by
    subst hv
    refine wpAny_pyIter_items (d := d) (knd := mixKind X.prog X.w) ⟨_, ev, rfl, rfl⟩ (hm.push _) (pi_one (tk := s1.toks) J2 _ (turn_itp _ hdt) ⟨.none, .none, ?_⟩ q)
    rw [Paired.length kv]
    exact Heap.get?_push_size _ rfl
  subst hv
  show wpAny _ _ (callWith cpos (.builtin "dict.items") [.ref d] [] []) _ X.xe s1
  exact method_meetsIn F.slot_dict_items F.entry_dict_items rfl (PySem.evalArgs_none ⟨rfl, D.typeIs, F.args_dict_items_1 _, _, meets_dict_items (mixKind X.prog X.w) d hs, ⟨vs, D⟩, fin⟩)
theorem mi_itemsG {elts : List Expr} {kk : Nat} {tpos : Pos} (ha : ME X b a ma) (hbase : attributeBase a "items" X.env (eval a X.env) = eval a X.env := by rfl) (hline : (apos.endLine == cpos.line) = true := by rfl) : MI X b (.Tuple elts kk tpos) (.Call (.Attribute a "items" apos) [] [] cpos) (iItemsG ma) := by
  refine ⟨⟨fun pins s σ H R I h => (pi_itp ha.run hbase hline).run pins s σ H R I ?_⟩, fun env P Q k h => ha.mono _ _ _ (fun d hd => obK_mono (fun kvs h1 => ⟨h1.1, k _ h1.2⟩) hd) h⟩
  obtain ⟨y, dr, F, env, re, hm⟩ := h
  refine ⟨y, dr, F, env, re, ha.mono _ _ _ (fun d hd v H' F' r1 s1 w => ?_) hm⟩
  cases q : asLk d with
  | none => rw [q] at hd; exact hd.elim
  | some kvs =>
    rw [q] at hd
    obtain ⟨p, o, kws, rfl, e1, e2⟩ := w.asLk r1 q
    have hH : H' p = some (.frz o (.dK kws)) := r1.rf.sub _ _ e1
    have hl : kws.length = kvs.length := rks_len e2
    have nd : some p ≠ dr := fun e => by rw [(r1.rf.drw _ e.symm).1] at e1; cases e1
    refine ⟨p, o, kws, rfl, hH, ?_⟩
    obtain ⟨⟨hz, hk⟩, hd⟩ := hd
    have hd : ∀ J H'' F'' G Y, _ := hd
    refine hd (Itp p o kws) H' F' (fun H1 => H1 p = some (.frz o (.dK kws))) _ r1 s1 (by rw [List.length_map, sizeLine_eq]; exact hz) ?_ ⟨fun _ H1 s => s _ _ e1, fun _ H1 k => k _ _ hH nd⟩ (yPair_ok (yp := fun i x1 x2 => ∃ k v, kws[i]? = some (k, v) ∧ x1 = kV k ∧ x2 = v) fun i x1 x2 hi hy => ?_)
    · rw [List.length_map, ← hl]
      refine ⟨fun i H hi h => ⟨h, hi⟩, fun H h => ⟨h, Nat.le_refl _⟩, fun i H x H2 _ _ h => ?_⟩
      obtain ⟨T, k, v, ot, to, h1, h2, h3, h4⟩ := h
      exact ⟨T, kV k, v, ot, to, h2, h3, h4, k, v, h1, rfl, rfl⟩
    · obtain ⟨k, v, hkv, rfl, rfl⟩ := hy
      obtain ⟨d, g1, g2⟩ := rks_at e2 hkv
      exact ⟨kD k, d, by rw [List.getElem?_map, g1]; rfl, rv_key (hk _ (List.mem_of_getElem? g1)), g2⟩
end
def fzK (s : Sl) (i : Nat) (env : En) : En := match s with
  | .k kvs => env.set i (.v (lkD kvs))
  | _ => env
@[simp] theorem fzK_k {kvs : List (Key × D)} {i : Nat} {env : En} : fzK (.k kvs) i env = env.set i (.v (lkD kvs)) := rfl
@[simp] theorem fzK_v {d : D} {i : Nat} {env : En} : fzK (.v d) i env = env := rfl
@[simp] theorem fzK_u {i : Nat} {env : En} : fzK .un i env = env := rfl
@[simp] theorem u_sFzD {i : Nat} {m : SS} {K : Ks} {env : En} : sFzD i m K env = m K (fzK (gv env i) i env) := by
  unfold sFzD fzL fzK
  cases gv env i <;> rfl
@[simp] theorem u_sFk {m : SK} {env : En} {Q : D → Prop} : sFk m env Q = (m env fun kvs => Q (lkD kvs)) := rfl
@[simp] theorem u_sOwnD {i : Nat} {m : SK} {K : Ks} {env : En} : sOwnD i m K env = (m env fun kvs => K.nx (env.set i (.k kvs))) := rfl
@[simp] theorem u_sDnil {env : En} {Q : List (Key × D) → Prop} : sDnil env Q = Q [] := rfl
@[simp] theorem u_sPairs {m : SE} {env : En} {Q : List (Key × D) → Prop} : sPairs m env Q = (m env fun d => match d with
  | .list xs => obK (pairsOf xs) fun kvs => Q (mergeG [] kvs)
  | _ => False) := rfl
@[simp] theorem u_sDin {n : Bool} {mi mo : SE} {env : En} {Q : D → Prop} : sDin n mi mo env Q = (mi env fun z => mo env fun x => obK (asK x) fun kvs => obY (keyOf z) fun k => Q (.bool (if n then !(getG kvs k).isSome else (getG kvs k).isSome))) := rfl
@[simp] theorem u_iKeysG {m : SE} {env : En} {Q : List D → Prop} : iKeysG m env Q = (m env fun d => obK (asLk d) fun kvs => (kvs.length ≤ 16777216 ∧ ∀ p ∈ kvs, klen p.1) ∧ Q (kvs.map fun p => kD p.1)) := rfl
@[simp] theorem u_iValsG {m : SE} {env : En} {Q : List D → Prop} : iValsG m env Q = (m env fun d => obK (asLk d) fun kvs => kvs.length ≤ 16777216 ∧ Q (kvs.map fun p => p.2)) := rfl
@[simp] theorem u_iItemsG {m : SE} {env : En} {Q : List D → Prop} : iItemsG m env Q = (m env fun d => obK (asLk d) fun kvs => (kvs.length ≤ 16777216 ∧ ∀ p ∈ kvs, klen p.1) ∧ Q (kvs.map fun p => .tuple [kD p.1, p.2])) := rfl
@[simp] theorem asK_lkD (kvs : List (Key × D)) : asK (lkD kvs) = some kvs := asK_lk kvs
end Mi

set_option maxHeartbeats 4000000
namespace Mi
open PySem PySem.Spec L2
/-! ### a tuple * n -/
section
open PyProof.Rows
theorem tuple_mul1 (l : Addr) (items : Array Value) (n : Nat) (dd : Option Addr) (sl : Array (Option Value)) (u : Tok) :
    Meets (Builtin.«tuple.__mul__» ⟨[.ref l, .int 1 u], []⟩) (fun _ R s => s.heap.get? l = some { cls := .type "tuple", dict := dd, data := .seq items n, slots := sl } ∧ R (.ok (.ret (Value.ref l))) s) :=
  .of_wp fun prog w A R s h => by
    obtain ⟨hp, g, d, tk, os⟩ := s
    obtain ⟨hl, h⟩ := h
    have f1 := AutoSeq1.idx_int
    have c1 : (items.isEmpty || (1 : Int) == 1) = true := by simp
    wp_walk using wpAny_loadPart' hl
    exact ⟨_, rfl, h⟩
def rRep1 (K : Fg) : R2 := fun x y H Q => ∃ l xs, x = .ref l ∧ y = .int 1 ∧ SqT K H l xs ∧ Q (.ref l) H
theorem op_rep1 {X : Cx} : OpR X (binaryOp .Mult) (rRep1 X.G) := by
  intro pins s σ H x y v u Q I rx ry h
  obtain ⟨l, xs, rfl, rfl, hT, q⟩ := h
  cases rx
  obtain ⟨t, rfl⟩ := ry
  obtain ⟨its, r, ⟨⟨cls, dd, data, sl⟩, ho, hc, n, hd⟩, hs⟩ := I.tuple hT
  simp only at hc hd
  subst hc hd
  exact wpAny_binaryOp_repeat_ref (T := "tuple") (U := "int") (by decide) ⟨_, ho, rfl⟩ (fun s' => typeIs_int s' 1 t) noFill_tuple_mul F.fills_int_mul F.slot_int_rmul repeat_tuple F.slot_int_index.lookup
    (call_meets F.slot_int_rmul (typeIs_int s 1 t) F.entry_int_rmul (F.args_int_rmul_2 _ _) (int_rmul_tuple 1 t l its.toArray n dd sl)
      ⟨ho, rfl, ⟨_, ho, rfl⟩, call_meets F.slot_tuple_mul ⟨_, ho, rfl⟩ F.entry_tuple_mul (F.args_tuple_mul_2 _ _) (tuple_mul1 l its.toArray n dd sl t) ⟨ho, .ref l, H, I, rfl, q⟩⟩)
end
noncomputable def repD (x z : D) : Option D := match x, z with
  | .tuple xs, .int k => cIf (xs ≠ [] ∧ 1 ≤ k ∧ k ≤ 1000 ∧ xs.length ≤ 1000) (some (.tuple (List.replicate k.toNat xs).flatten)) none
  | _, _ => none
theorem rvs_repT {K : Fg} {F : Hp} {xs : List D} {vs : List V} (r : Rvs K F xs vs) : ∀ n : Nat, Rvs K F (List.replicate n xs).flatten (List.replicate n vs).flatten
  | 0 => .nil
  | n + 1 => by
    rw [List.replicate_succ, List.replicate_succ, List.flatten_cons, List.flatten_cons]
    exact r.append (rvs_repT r n)
theorem rep_len {α : Type} (xs : List α) : ∀ n : Nat, (List.replicate n xs).flatten.length = n * xs.length
  | 0 => by simp
  | n + 1 => by rw [List.replicate_succ, List.flatten_cons, List.length_append, rep_len xs n, Nat.add_mul]; omega
section
variable {X : Cx} {b b' : Bool} {a c : Expr} {ma mc : SE} {pos : Pos}
theorem ok_repT : Ok2 X b repD (fun x z H Q => rRepP X.G x z H Q ∨ rRep1 X.G x z H Q) := by
  intro y dr F env σ H d1 d2 d v1 v2 Q re w1 w2 e k
  unfold repD at e
  split at e
  · rename_i xs kk
    by_cases hc : xs ≠ [] ∧ 1 ≤ kk ∧ kk ≤ 1000 ∧ xs.length ≤ 1000
    · rw [cIf_pos hc] at e
      cases e
      obtain ⟨a1, vs, rfl, h1, z1, r1⟩ := w1.tuple re
      have l1 := r1.length
      have hi := w2.int
      subst hi
      by_cases h : kk = 1
      · subst h
        refine .inr ⟨a1, vs, rfl, rfl, re_tuple re h1, k _ H F re Ex.refl (.tup h1 ?_ ?_)⟩
        · simpa using z1
        · simpa using r1
      · refine .inl ⟨a1, kk, vs, rfl, rfl, re_tuple re h1, fun z => hc.1 ?_, by omega, hc.2.2.1, by omega, fun p o to hp => ?_⟩
        · rw [z] at l1; exact List.eq_nil_of_length_eq_zero l1
        · refine k _ _ _ (re.laid hp) (re.ex hp) (Rv.tupNew (re.nF hp) to ?_ (rvs_repT r1 kk.toNat))
          rw [rep_len, sizeLine_eq]
          have : kk.toNat * xs.length ≤ 1000 * 1000 := Nat.mul_le_mul (by omega) hc.2.2.2
          omega
    · rw [cIf_neg hc] at e; cases e
  · cases e
theorem me_repT (ha : ME X b a ma) (hc : ME X b c mc) : ME X b' (.BinOp a .Mult c pos) (sOp repD ma mc) := me_op (op_repP.or op_rep1) ok_repT ha hc
end
theorem rep_i {xs : List D} {k : Int} (h : xs ≠ [] ∧ 1 ≤ k ∧ k ≤ 1000 ∧ xs.length ≤ 1000) : repD (.tuple xs) (.int k) = some (.tuple (List.replicate k.toNat xs).flatten) := cIf_pos h
/-! ### enumerate(xs, start=k) -/
section
variable {prog : Program} {w : World} {A : Around} {E : Value → Shared → Prop} {s : Shared} {env : Env}
theorem callWith_typeK {pos : Pos} {T : String} {first : List Value} {args : List (Bool × Sem Value)} {keywords : List (Option Str × Sem Value)} {Q : Value → Shared → Prop}
    (hplain : args.any (·.1) = false) (hkw : keywords.any (·.1.isNone) = false)
    (h : wpAny (model prog w) A (evalArgs (.type T) true args keywords) (fun a s₁ => wpAny (model prog w) A (call (.type T) (first ++ a.pos) a.kw) Q E s₁) E s) :
    wpAny (model prog w) A (callWith pos (.type T) first args keywords) Q E s := by
  unfold callWith
  refine wpAny_bind (wpAny_holding (wpAny_mono h (fun a s₁ h₁ => wpAny_bind (wpAny_standAt ?_)) fun _ _ x => x))
  simp only [hplain, hkw, Bool.or_false]
  refine wpAny_bind (wpAny_pure ?_)
  exact wpAny_bind (wpAny_mono h₁ (fun r s₂ hr => wpAny_bind (wpAny_holding (wpAny_point (wpAny_pure hr)))) fun _ _ x => x)
theorem callWith_kwT {pos : Pos} {T : String} {e : Expr} {rest : List Expr} {kws : List Keyword} {Q : Value → Shared → Prop}
    (h : wpAny (model prog w) A (spliced (backTo pos (starEach (e :: rest) env))) (fun vs s₁ => wpAny (model prog w) A (evalAll ((backToKw pos (keywordEach kws env)).map (·.2)))
      (fun kvs s₂ => wpAny (model prog w) A (call (.type T) vs (((backToKw pos (keywordEach kws env)).filterMap (·.1)).zip kvs)) Q E s₂) E s₁) E s)
    (he : backTo pos (starEach (e :: rest) env) = (false, eval e env) :: backTo pos (starEach rest env) := by rfl)
    (hplain : (backTo pos (starEach (e :: rest) env)).any (·.1) = false := by rfl)
    (hall : (backToKw pos (keywordEach kws env)).all (·.1.isSome) = true := by rfl)
    (hkw : (backToKw pos (keywordEach kws env)).any (·.1.isNone) = false := by rfl) :
    wpAny (model prog w) A (callWith pos (.type T) [] (backTo pos (starEach (e :: rest) env)) (backToKw pos (keywordEach kws env))) Q E s := by
  refine callWith_typeK hplain hkw ?_
  rw [he] at h ⊢
  exact PyProof.Rows.evalArgs_kwB hall h
end
section
variable {X : Cx} {b : Bool} {a : Expr} {ma : SE} {pos : Pos}
theorem mi_enS {elts : List Expr} {kk : Nat} {tpos p kp cp : Pos} {k : Int} {cj : Nat} (hk0 : -(2 ^ 63) ≤ k := by decide) (hk1 : k < 2 ^ 63 := by decide) (hg : Gl X "enumerate") (hm : X.mg "enumerate" = none) (ha : ME X b a ma)
    (he : backTo pos (starEach [a] X.env) = (false, eval a X.env) :: backTo pos (starEach [] X.env) := by rfl) (hpl : (backTo pos (starEach [a] X.env)).any (·.1) = false := by rfl) (hs : starEach [a] X.env = [(false, eval a X.env)] := by rfl)
    (hall : (backToKw pos (keywordEach [⟨some "start", .Constant (.int k) cj cp, kp⟩] X.env)).all (·.1.isSome) = true := by rfl) (hnone : (backToKw pos (keywordEach [⟨some "start", .Constant (.int k) cj cp, kp⟩] X.env)).any (·.1.isNone) = false := by rfl)
    (hks : (backToKw pos (keywordEach [⟨some "start", .Constant (.int k) cj cp, kp⟩] X.env)).filterMap (·.1) = [Str.ofString "start"] := by rfl) :
    MI X b (.Tuple elts kk tpos) (.Call (.Name "enumerate" p) [a] [⟨some "start", .Constant (.int k) cj cp, kp⟩] pos) (iEn k ma) := by
  refine ⟨⟨fun pins s σ H R I h => ?_⟩, iEn_mono ha⟩
  obtain ⟨y, dr, F, env, re, hm2⟩ := h
  refine wpAny_Call_Name_kw (ld_blt I hg hm PyProof.Rows.boot_enumerate (callWith_kwT (thn ((pa_cons ha.run pa_nil hs).run pos pins s σ H (fun vs H1 => ∃ y dr F' env' d v xs, vs = [v] ∧ Re X.G y dr F' env' σ H1 ∧ Vr X.G b F' env' σ d v ∧ itemsOf d = some xs ∧
      ∀ J H' F2 G Y, Re X.G y dr F2 env' σ H' → Ex dr F' H1 F2 H' → (enumL k xs).length ≤ sizeLine → Walk J (enumL k xs).length G Y → GOk b dr F2 H' G → YOk X.G F2 (enumL k xs) G Y → R J H') I ?_) fun us s1 ⟨vs, H1, I1, r1, q1⟩ => ?_) he hpl hall hnone))
  · refine ⟨y, dr, F, env, re, ha.mono _ _ _ (fun d hd v H' F' r1 s1 w => ?_) hm2⟩
    cases q : itemsOf d with
    | none => rw [q] at hd; exact hd.elim
    | some xs =>
      rw [q] at hd
      exact ⟨y, dr, F', env, d, v, xs, rfl, r1, w, q, fun J H2 F2 G Y r2 s2 => hd J H2 F2 G Y r2 (s1.trans s2)⟩
  · refine thn ((pk_cons (nm := some "start") (kpos := kp) (pe_int (i := k) (j := cj) (pos := cp)) pk_nil).run pos pins s1 σ H1 (fun zs H2 => zs = [.int k] ∧ H2 = H1) I1 ⟨rfl, rfl⟩) fun ws s2 ⟨zs, H2, I2, r2, ez, eH⟩ => ?_
    subst ez eH
    rw [hks]
    obtain ⟨y, dr, F, env, d, v, xs, rfl, re1, w, hx, hR⟩ := q1
    cases r1 with
    | cons r rr =>
      cases rr
      cases r2 with
      | cons ri rn =>
        cases rn
        obtain ⟨t, rfl⟩ := ri
        obtain ⟨o, Bh, Rr, sa, yv, q1, q2, q3, q4, q5, q6, q7, q8⟩ := src_of (X := X) rfl I2 re1 w r hx
        exact enum_begins_start q1 q2 hk0 hk1 fun h' he ho hsz hk => wpAny_pyIter_enum he (en_fin I2 re1 Ex.refl q3 q4 q5 q6 q7 q8 he ho hk hR)
end
end Mi

set_option maxHeartbeats 2000000
namespace Mi
open PySem PySem.Spec L2
/-! ### sorted(d.items()) -/
section
open LiI
/-- tuples at their addresses, their objects known -/
def putP (ob : Addr → Obj) : Hp → List Addr → List (Key × V) → Hp
  | H, a :: as, p :: kws => putP ob (upd H a (.frz (ob a) (.tup [kV p.1, p.2]))) as kws
  | H, _, _ => H
theorem putP_off {ob : Addr → Obj} {c : Addr} : ∀ (as : List Addr) (kws : List (Key × V)) (H : Hp), c ∉ as → putP ob H as kws c = H c
  | [], _, _, _ => rfl
  | _ :: _, [], _, _ => rfl
  | _ :: as, _ :: kws, _, n => by
    have n1 : c ∉ as := fun z => n (List.mem_cons_of_mem _ z)
    exact (putP_off as kws _ n1).trans (upd_ne fun z => n (z ▸ List.mem_cons_self))
theorem putP_at {ob : Addr → Obj} : ∀ (as : List Addr) (kws : List (Key × V)) (H : Hp), as.length = kws.length → as.Nodup → Paired (fun (t : Addr) (p : Key × V) => putP ob H as kws t = some (.frz (ob t) (.tup [kV p.1, p.2]))) as kws
  | [], [], _, _, _ => .nil
  | [], _ :: _, _, e, _ => nomatch e
  | _ :: _, [], _, e, _ => nomatch e
  | _ :: as, _ :: kws, _, e, nd => .cons ((putP_off as kws _ (List.nodup_cons.mp nd).1).trans upd_same) (putP_at as kws _ (Nat.succ.inj e) (List.nodup_cons.mp nd).2)
/-- the object that lies at a place -/
def obAt (h : Heap) (a : Addr) : Obj := (h.get? a).getD (nT [])
/-- the tuples of a dict's items, laid -/
theorem items_laidT {X : Cx} {pins : List (Addr × Obj)} {σ : L2.St} {H : Hp} {s : Shared} {h' : Heap} {tk : Nat} {kvs : List (Key × V)} {vs : List (Key × Value)} {as : List Addr} (I : Inv X pins σ H s) (kv : KV kvs vs)
    (hk : ∀ b o, s.heap.get? b = some o → h'.get? b = some o) (hl : as.length = vs.length) (hG : PySem.W.KdxG (mixKind X.prog X.w) vs s.heap.objs.size h' as) :
    (∀ t ∈ as, H t = none) ∧ as.Nodup ∧ as.length = kvs.length ∧ (∀ t ∈ as, TuO (obAt h' t)) ∧ Inv X pins σ (putP (obAt h') H as kvs) { s with heap := h', toks := tk } := by
  have lk : kvs.length = vs.length := Paired.length kv
  have nd : as.Nodup := List.Pairwise.imp (fun {a b} (h : a < b) => Nat.ne_of_lt h) hG.rise
  have new : ∀ t ∈ as, H t = none := fun t ht => I.hok.fresh (Nat.le_of_lt (hG.above t ht))
  have atP := putP_at (ob := obAt h') as kvs H (by omega) nd
  have off : ∀ b, b ∉ as → putP (obAt h') H as kvs b = H b := fun b h1 => putP_off as kvs _ h1
  have low : ∀ b o, s.heap.get? b = some o → b ∉ as := fun b o e z => absurd (Heap.lt_size e) (Nat.not_lt.mpr (Nat.le_of_lt (hG.above b z)))
  have kp : ∀ b u, H b = some u → (putP (obAt h') H as kvs) b = some u := fun b u e => by
    rw [off b (fun z => by rw [new b z] at e; cases e)]
    exact e
  refine ⟨new, nd, by omega, fun t ht => ?_, ?_⟩
  · obtain ⟨j, e⟩ := List.mem_iff_getElem?.mp ht
    obtain ⟨key, k, x, _, _, f3⟩ := hG.pairs j t e
    unfold obAt
    rw [f3]
    exact ⟨rfl, rfl⟩
  refine I.call' (ch := []) rfl ⟨fun b o q _ _ _ => hk b o q, fun b o q _ _ _ => ⟨o.slots, hk b o q⟩, fun b o q n _ => ?_, fun b o q _ => ⟨o, hk b o q⟩, fun b xs q => kp b _ q, fun b o u q => kp b _ q, fun b ps q => ⟨#[], by rw [kp b _ q]; simp⟩⟩ (fun b u q => ?_) I.bare fun b z => by simp at z
  · rw [off b (low b o q)]
    exact n
  · by_cases hb : b ∈ as
    · obtain ⟨j, pk, e1, e2, e3⟩ := paired_ix atP hb
      rw [e3] at q
      cases q
      obtain ⟨key, k, x, f1, f2, f3⟩ := hG.pairs j b e1
      obtain ⟨qv, g1, g2, g3⟩ := LiI.paired_get kv e2
      rw [f1] at g1
      cases g1
      have rk : RelV (kV pk.1) key := by
        rw [g2]
        exact relV_key (show keyIs k key = true from f2)
      have eo : obAt h' b = nT [key, x] := by unfold obAt; rw [f3]; rfl
      rw [eo]
      exact okT (.cons rk (.cons g3 .nil)) (by show 2 ≤ sizeLine; decide) f3
    · rw [off b hb] at q
      exact (I.hok b u q).stay (fun d v _ y => hk d v y) (fun d y => kp d _ y) fun d xs y => kp d _ y
end
def rSortItems (X : Cx) : V → Hp → VK → Prop := fun x H Q => ∃ (d : Addr) (kvs : List (Key × V)), x = .ref d ∧ Rd H d (.dK kvs) ∧
  ∀ (ob : Addr → Obj) (as : List Addr), (∀ t ∈ as, TuO (ob t)) → (∀ t ∈ as, H t = none) → as.Nodup → as.length = kvs.length → ∃ ds : List D, as.length = ds.length ∧ (∀ p ∈ (as.map V.ref).zip ds, Dp X.G (putP ob H as kvs) p.1 p.2) ∧ PySem.W.AllAlike ds ∧ PySem.W.Sortable ds ∧ (∀ d ∈ ds, d.depth ≤ 60) ∧
    ∀ p, putP ob H as kvs p = none → Q (.ref p) (upd (putP ob H as kvs) p (.lst ((((as.map V.ref).zip ds).mergeSort fun p q => leD' p.2 q.2).map (·.1))))
def tSortItems (X : Cx) (te : TE) : TE := fun σ H Q => te σ H fun x H1 => rSortItems X x H1 Q
open PyProof.Rows in
theorem sort_items {X : Cx} {pins : List (Addr × Obj)} {σ : L2.St} {H : Hp} {s : Shared} {d r : Addr} {kvs : List (Key × V)} {vs : List (Key × Value)} {ep : Nat} {Q : VK} (hc : X.calm = true) (hu : X.A.units + 65 < cLine) (I : Inv X pins σ H s) (hv : s.heap.IsItemsView r d) (kv : KV kvs vs) (hm : s.heap.DictAt (mixKind X.prog X.w) d vs ep) (hn : kvs.length ≤ sizeLine)
    (q : ∀ (ob : Addr → Obj) (as : List Addr), (∀ t ∈ as, TuO (ob t)) → (∀ t ∈ as, H t = none) → as.Nodup → as.length = kvs.length → ∃ ds : List D, as.length = ds.length ∧ (∀ p ∈ (as.map V.ref).zip ds, Dp X.G (putP ob H as kvs) p.1 p.2) ∧ PySem.W.AllAlike ds ∧ PySem.W.Sortable ds ∧ (∀ d ∈ ds, d.depth ≤ 60) ∧
      ∀ p, putP ob H as kvs p = none → Q (.ref p) (upd (putP ob H as kvs) p (.lst ((((as.map V.ref).zip ds).mergeSort fun p q => leD' p.2 q.2).map (·.1))))) :
    wpAny (model X.prog X.w) X.A (call (.builtin "sorted") [.ref r]) (EP X pins σ Q) X.xe s := by
  have lk : kvs.length = vs.length := Paired.length kv
  apply Calls.call_function_entry kind_sorted plain_sorted
  · exact entry_sorted
  · exact args_sorted1 _
  unfold Builtin.«sorted»
  apply wpAny_bind (m := checkCount "sorted" 1 1 _)
  refine wpAny_pure (wpAny_bind (PySem.W.kdx_collect (knd := mixKind X.prog X.w) (kvs := vs) (ep := ep) (I.ok.hd hc) hv hm (by omega) fun hp tk as k1 hl hG => ?_))
  obtain ⟨fresh, nd, ln, to, J⟩ := items_laidT (tk := tk) I kv k1 hl hG
  obtain ⟨ds, hld, hd, hal, hso, hdp, q⟩ := q _ as to fresh nd ln
  generalize obAt hp = ob at *
  have hits : (as.map Value.ref).length ≤ sizeLine := by rw [List.length_map]; omega
  generalize hits0 : as.map Value.ref = its at *
  have rv : Vals (as.map V.ref) its := by rw [← hits0]; exact LiI.vals_refs as
  generalize hvs : as.map V.ref = ws at *
  have hlw : ws.length = ds.length := by rw [← hvs, List.length_map]; exact hld
  have hwz : ws.length ≤ sizeLine := by rw [← hvs, List.length_map]; omega
  have ez := zip_vals rv hlw
  have e2 := map_snd_zip hlw
  have hlen : (ws.zip ds).length = ws.length := by rw [List.length_zip, ← hlw]; simp
  refine wpAny_bind (wpAny_newList ?_ hits)
  have hoL : (hp.push (seqObj "list" its.toArray 0)).get? hp.objs.size = some (seqObj "list" its.toArray 0) := Heap.get?_push_size _ rfl
  have k2 : ∀ b o, hp.get? b = some o → b ≠ hp.objs.size ∧ b < (hp.push (seqObj "list" its.toArray 0)).objs.size ∧ (hp.push (seqObj "list" its.toArray 0)).get? b = some o := fun b o e1 => by
    have e3 := Heap.lt_size e1
    exact ⟨Nat.ne_of_lt e3, by rw [size_push']; exact Nat.lt_succ_of_lt e3, Heap.get?_push_of_some _ e1⟩
  have er : PySem.W.EachIs (fun u (p : V × D) => ∃ as, PySem.Reads (PySem.W.sortingHeap (hp.push (seqObj "list" its.toArray 0)) hp.objs.size its) u p.2 as) its (ws.zip ds) := by
    have : ∀ {us : List Value} {ps : List (V × D)}, PySem.W.EachIs (fun u (p : V × D) => RelV p.1 u) us ps → (∀ p ∈ ps, Dp X.G (putP ob H as kvs) p.1 p.2) → PySem.W.EachIs (fun u (p : V × D) => ∃ as, PySem.Reads (PySem.W.sortingHeap (hp.push (seqObj "list" its.toArray 0)) hp.objs.size its) u p.2 as) us ps := by
      intro us ps e
      induction e with
      | nil => intro _; exact .nil
      | cons r t ih =>
        intro h
        obtain ⟨as, ra⟩ := Dp.reads J _ _ _ (h _ (by simp)) r
        exact .cons ⟨as, PyProof.Rows.Reads.keeps (fun b o e => PySem.W.sortingHeap_old (k2 b o e).1 (k2 b o e).2.2) ra⟩ (ih fun p hp => h p (by simp [hp]))
    exact this ez hd
  have hlk : (ws.zip ds).length ≤ sizeLine := by rw [hlen]; exact hwz
  have hso2 := PySem.W.SortsAt.data (A := X.A.in1.in1) (prog := X.prog) (w := X.w) (s := { s with heap := PySem.W.sortingHeap (hp.push (seqObj "list" its.toArray 0)) hp.objs.size its, toks := tk }) (PySem.W.each_map (fun p : V × D => p.2) er) (by rw [e2]; exact hal) (by rw [e2]; exact hso) (PySem.W.bound_map fun p hp => by
    have h1 := hdp p.2 (by rw [← e2]; exact List.mem_map_of_mem hp)
    show X.A.units + 1 + 1 + p.2.depth < cLine
    omega)
  apply wpAny_bind
  apply wpAny_holding
  refine wpAny_call_entry slot_list_sort ⟨_, hoL, rfl⟩ entry_list_sort ?_ (args_list_sort _)
  refine PySem.W.list_sort_vals (κ := PySem.W.dataKind (PySem.W.sortingHeap (hp.push (seqObj "list" its.toArray 0)) hp.objs.size its) ((ws.zip ds).map fun p => p.2)) hoL hso2 hits ⟨_, rfl, wpAny_pure ⟨_, rfl, ?_⟩⟩
  obtain ⟨c, hc⟩ := sortedHeap_at (vs := its) (out := (PySem.W.sortVals (PySem.W.dataKind (PySem.W.sortingHeap (hp.push (seqObj "list" its.toArray 0)) hp.objs.size its) ((ws.zip ds).map fun p => p.2)) false its its).toArray) hoL
  have ev := each_vals (PySem.W.sortVals_data (enc := fun p : V × D => p.2) false ez er (by rw [e2]; exact hal))
  have hf : putP ob H as kvs hp.objs.size = none := J.hok.fresh (Nat.le_refl hp.objs.size)
  refine ⟨.ref _, upd (putP ob H as kvs) hp.objs.size (.lst (((ws.zip ds).mergeSort fun p q => leD' p.2 q.2).map (·.1))), J.laid (t' := tk) (fun b o e => ?_) (Nat.le_refl hp.objs.size) ⟨?_, _, c, ev, hc⟩, rfl, q _ hf⟩
  · exact (sortedHeap_old (k2 b o e).1 (k2 b o e).2.1).trans (k2 b o e).2.2
  · rw [List.length_map, List.length_mergeSort, hlen]
    exact hwz
section
variable {X : Cx} {b b' : Bool} {e : Expr} {te : TE} {me : SE} {p apos cpos pos : Pos}
open PyProof.Rows in
theorem pe_sortItems (hc : X.calm = true) (hu : X.A.units + 65 < cLine) (he : PE X e te) (hg : Gl X "sorted") (hm : X.mg "sorted" = none) (hbase : attributeBase e "items" X.env (eval e X.env) = eval e X.env := by rfl) (hline : (apos.endLine == cpos.line) = true := by rfl)
    (hs : starEach [.Call (.Attribute e "items" apos) [] [] cpos] X.env = (false, eval (.Call (.Attribute e "items" apos) [] [] cpos) X.env) :: starEach [] X.env := by rfl) :
    PE X (.Call (.Name "sorted" p) [.Call (.Attribute e "items" apos) [] [] cpos] [] pos) (tSortItems X te) := by
  refine ⟨fun pins s σ H Q I hq => ?_⟩
  refine wpAny_Call_Name_kw (ld_blt I hg hm (u := .builtin "sorted") (by decide +kernel) ?_)
  refine PyProof.Rows.callWith_builtin1 ?_ hs rfl
  rw [hs]
  show wpAny _ _ (spliced ((false, eval (.Call (.Attribute e "items" apos) [] [] cpos) X.env) :: backTo pos (starEach [] X.env))) _ _ s
  refine Calls.spliced_cons ?_
  refine wpAny_Call_method (T := "dict") (id := "dict.items") hbase rfl hline F.plainAttrs_dict F.slot_dict_items F.type_dict_items (thn (he.run pins s σ H _ I hq) fun u s1 ⟨x, H1, I1, rx, d, kvs, ex, hd, q⟩ => ?_)
  subst ex
  obtain rfl : u = Value.ref d := rx
  obtain ⟨hz, hs0, vs, kv, hdo⟩ := dk_rd I1.hok hd
  obtain ⟨ep, hat⟩ := hdo.dictAt
  have lk : kvs.length = vs.length := Paired.length kv
  have I2 : Inv X pins σ H1 { s1 with heap := s1.heap.push { cls := .type "dict_items", data := .fields #[.ref d] } } := I1.kept (t' := s1.toks) fun b ob q => Heap.get?_push_of_some _ q
  refine ⟨hdo.typeIs, hdo.mapOf.noDict, ?_⟩
  show wpAny _ _ (callWith cpos (.builtin "dict.items") [.ref d] [] []) _ X.xe s1
  refine method_meetsIn F.slot_dict_items F.entry_dict_items rfl (PySem.evalArgs_none ⟨rfl, hdo.typeIs, F.args_dict_items_1 _, _, meets_dict_items (mixKind X.prog X.w) d hs0, ⟨vs, hdo⟩, ?_⟩)
  refine Calls.spliced_nil ?_
  exact sort_items hc hu I2 ⟨_, Heap.get?_push_size _ rfl, rfl, rfl⟩ kv (hat.push _) (by omega) q
end
def itD (p : Key × D) : D := .tuple [kD p.1, p.2]
theorem re_putP {K : Fg} {y : Cy} {dr : Option Addr} {env : En} {σ : L2.St} {ob : Addr → Obj} : ∀ (as : List Addr) (kws : List (Key × V)) {F H : Hp}, Re K y dr F env σ H → (∀ t ∈ as, H t = none) → as.Nodup → Re K y dr (putP ob F as kws) env σ (putP ob H as kws) ∧ Ex dr F H (putP ob F as kws) (putP ob H as kws)
  | [], _, F, H, re, _, _ => ⟨re, Ex.refl⟩
  | _ :: _, [], F, H, re, _, _ => ⟨re, Ex.refl⟩
  | a :: as, p :: kws, F, H, re, h, nd => by
    have ha : H a = none := h a (by simp)
    have nd2 := List.nodup_cons.mp nd
    obtain ⟨r1, x1⟩ := re_putP as kws (re.laid (o := .frz (ob a) (.tup [kV p.1, p.2])) ha) (fun t ht => by rw [upd_ne (fun z => nd2.1 (by rw [← z]; exact ht))]; exact h t (List.mem_cons_of_mem _ ht)) nd2.2
    exact ⟨r1, (re.ex ha).trans x1⟩
theorem rvs_items {K : Fg} {F F' : Hp} {ob : Addr → Obj} (sm : Same F F') : ∀ {kvs : List (Key × D)} {kws : List (Key × V)} {as : List Addr}, Rks K F (kdD kvs) kws → (∀ p ∈ kvs, klen p.1) → (∀ t ∈ as, TuO (ob t)) → Paired (fun (t : Addr) (p : Key × V) => F' t = some (.frz (ob t) (.tup [kV p.1, p.2]))) as kws → Rvs K F' (kvs.map itD) (as.map V.ref)
  | [], kws, as, h, _, _, pr => by
    cases h
    cases pr
    exact .nil
  | (k, d) :: r, kws, as, h, hk, ht, pr => by
    obtain ⟨k', v, vs, e0, rfl, rv, h3⟩ := rks_inv h
    have e0 := kD_inj e0
    subst e0
    cases pr with
    | cons e t =>
      refine .cons (.tup (.inl ⟨_, e, ht _ (by simp)⟩) (by show 2 ≤ sizeLine; rw [sizeLine_eq]; decide) (.cons (rv_key (hk _ (by simp))) (.cons (rv.mono sm) .nil))) (rvs_items sm h3 (fun p hp => hk p (List.mem_cons_of_mem _ hp)) (fun t ht' => ht t (List.mem_cons_of_mem _ ht')) t)
def sSortItems (m : SE) : SL := fun env Q => m env fun d => obK (asK d) fun kvs => ((∀ p ∈ kvs, klen p.1) ∧ kvs.length ≤ 16777216) ∧ SrtOk (kvs.map itD) ∧ Q (srt (kvs.map itD))
@[simp] theorem u_sSortItems {m : SE} {env : En} {Q : List D → Prop} : sSortItems m env Q = (m env fun d => obK (asK d) fun kvs => ((∀ p ∈ kvs, klen p.1) ∧ kvs.length ≤ 16777216) ∧ SrtOk (kvs.map itD) ∧ Q (srt (kvs.map itD))) := rfl
theorem mf_sortItems {X : Cx} {a : Expr} {ma : SE} {p apos cpos pos : Pos} (hu : X.A.units + 65 < cLine) (hc : X.calm = true) (hg : Gl X "sorted") (hm : X.mg "sorted" = none) (ha : ME X true a ma) (hbase : attributeBase a "items" X.env (eval a X.env) = eval a X.env := by rfl) (hline : (apos.endLine == cpos.line) = true := by rfl)
    (hs : starEach [.Call (.Attribute a "items" apos) [] [] cpos] X.env = (false, eval (.Call (.Attribute a "items" apos) [] [] cpos) X.env) :: starEach [] X.env := by rfl) :
    MF X (.Call (.Name "sorted" p) [.Call (.Attribute a "items" apos) [] [] cpos] [] pos) (sSortItems ma) := by
  refine ⟨⟨fun pins s σ H Q I hq => (pe_sortItems hc hu ha.run hg hm hbase hline hs).run pins s σ H Q I ?_⟩, fun env P Q k hp => ha.mono _ _ _ (fun d h1 => obK_mono (fun kvs h => ⟨h.1, h.2.1, k _ h.2.2⟩) h1) hp⟩
  obtain ⟨y, dr, F, env, re, hm⟩ := hq
  refine ⟨y, dr, F, env, re, ha.mono _ _ _ (fun d1 h1 v1 H1 F1 r1 s1 w1 => ?_) hm⟩
  cases q : asK d1 with
  | none => rw [q] at h1; exact h1.elim
  | some kvs =>
    rw [q] at h1
    obtain ⟨⟨hk, hz⟩, ok, h1⟩ := h1
    obtain ⟨p', kws, rfl, e1, e2⟩ := w1.asK r1 q
    have hlk := rks_len e2
    refine ⟨p', kws, rfl, e1, fun ob as to fresh nd ln => ?_⟩
    obtain ⟨r2, x2⟩ := re_putP as kws r1 fresh nd
    have atP := putP_at (ob := ob) as kws F1 ln nd
    have rv : Rvs X.G (putP ob F1 as kws) (kvs.map itD) (as.map V.ref) := rvs_items x2.f e2 hk to atP
    have hl : (as.map V.ref).length = (kvs.map itD).length := by rw [List.length_map, List.length_map]; omega
    refine ⟨kvs.map itD, by rw [List.length_map]; omega, fun p hp => ?_, ok.al, ok.so, ok.dp, fun p hp => ?_⟩
    · have hm : p.2 ∈ kvs.map itD := (List.of_mem_zip hp).2
      exact dp_mono r2.rf.sub ((rvs_zip rv p hp).dp (ok.lay _ hm))
    · have := zip_rvs (K := X.G) (F := putP ob F1 as kws) (ps := ((as.map V.ref).zip (kvs.map itD)).mergeSort fun p q => leD' p.2 q.2) fun p hp => rvs_zip rv p (List.mem_mergeSort.mp hp)
      rw [List.map_mergeSort (s := leD') (fun _ _ _ _ => rfl), map_snd_zip hl] at this
      exact new_lst r2 (s1.trans x2) hp (xs := srt (kvs.map itD)) this (by rw [srt_len, List.length_map, sizeLine_eq]; exact hz) h1
end Mi

namespace Mi
open PySem PySem.Spec L2
/-! ### a new dict among several stores -/
def xK (m : SK) (r : SX) : SX := fun env Q => m env fun kvs => r env fun its => Q (.k kvs :: its)
@[simp] theorem u_xK {m : SK} {r : SX} {env : En} {Q : List Sl → Prop} : xK m r env Q = (m env fun kvs => r env fun its => Q (.k kvs :: its)) := rfl
theorem mx_k {X : Cx} {e : Expr} {es : List Expr} {ml : SK} {mr : SX} (ha : MK X e ml) (hr : MX X es mr) (hs : starEach (e :: es) X.env = (false, eval e X.env) :: starEach es X.env := by rfl) : MX X (e :: es) (xK ml mr) := by
  refine ⟨⟨fun pos pins s σ H Q I h => (pa_cons ha.run hr.run hs).run pos pins s σ H Q I ?_⟩, fun env P Q k h => ha.mono _ _ _ (fun d h1 => hr.mono _ _ _ (fun ds h2 => k _ h2) h1) h,
    fun env P h => ha.mono _ _ _ (fun d h1 => hr.mono _ _ _ (fun ds h2 => ⟨congrArg (· + 1) h2.1, h2.2⟩) (hr.len _ _ h1)) h⟩
  obtain ⟨y, dr, F, env, re, hm⟩ := h
  refine ⟨y, dr, F, env, re, ha.mono _ _ _ (fun kvs hd p kws H1 F1 r1 s1 hn hp fr rv => ?_) hm⟩
  obtain ⟨y', ri, hin, out⟩ := r1.keepAll
  refine ⟨y', dr, F1, env, ri, hr.mono _ _ _ (fun its hits ws H2 F2 r2 s2 w2 => ?_) hd⟩
  obtain ⟨o1, o2, o3⟩ := out F2 H2 r2 s2.f
  have hp2 : H2 p = some (.dK kws) := s2.k p _ hp fr.nd
  refine hits (.ref p :: ws) H2 F2 o1 (s1.trans s2) (.cons ⟨p, kws, rfl, hp2, ⟨o2 p fr.nF fr.no (by rw [hp]; simp), fr.nH, fr.nd, fr.no⟩, rv.mono s2.f⟩ (fun _ s' v' hm ho e => ?_) (xall_y o3 w2))
  obtain ⟨q, h1, h2⟩ := xall_own w2 s' v' hm ho
  rw [e] at h1; cases h1
  exact hin p fr.no (by rw [hp]; simp) h2.nH
/-! ### {k: v for ..} -/
def dcGo (g : SG) (t : SB) (mk mv : SE) (env : En) : List D → List (Key × D) → (List (Key × D) → Prop) → Prop
  | [], acc, Q => Q acc
  | d :: ds, acc, Q => g d env fun e1 => t e1 fun k => if k = true then mk e1 fun z => mv e1 fun r => obY (keyOf z) fun key => dcGo g t mk mv env ds (putG acc key r) Q else dcGo g t mk mv env ds acc Q
def sDc (src : SI) (own : List Nat) (g : SG) (t : SB) (mk mv : SE) : SK := fun env Q => src env fun ds => dcGo g t mk mv (wipeE env own) ds [] Q
@[simp] theorem u_sDc {src : SI} {own : List Nat} {g : SG} {t : SB} {mk mv : SE} {env : En} {Q : List (Key × D) → Prop} : sDc src own g t mk mv env Q = (src env fun ds => dcGo g t mk mv (wipeE env own) ds [] Q) := rfl
theorem dcGo_mono {g : SG} {t : SB} {mk mv : SE} (hg : ∀ d env (P Q : En → Prop), (∀ e, P e → Q e) → g d env P → g d env Q) (ht : ∀ env (P Q : Bool → Prop), (∀ d, P d → Q d) → t env P → t env Q) (hk : ∀ env (P Q : D → Prop), (∀ d, P d → Q d) → mk env P → mk env Q) (hv : ∀ env (P Q : D → Prop), (∀ d, P d → Q d) → mv env P → mv env Q) (env : En) :
    ∀ (ds : List D) (acc : List (Key × D)) (P Q : List (Key × D) → Prop), (∀ r, P r → Q r) → dcGo g t mk mv env ds acc P → dcGo g t mk mv env ds acc Q
  | [], acc, P, Q, k, h => k _ h
  | d :: ds, acc, P, Q, k, h => hg _ _ _ _ (fun e1 h1 => ht _ _ _ (fun b hb => by
      cases b with
      | true => rw [if_pos rfl] at hb ⊢; exact hk _ _ _ (fun z hz => hv _ _ _ (fun r hr => obY_mono (fun key h => dcGo_mono hg ht hk hv env ds _ _ _ k h) hr) hz) hb
      | false => rw [if_neg Bool.false_ne_true] at hb ⊢; exact dcGo_mono hg ht hk hv env ds _ _ _ k hb) h1) h
theorem putG_len (kvs : List (Key × D)) (k : Key) (v : D) : (putG kvs k v).length ≤ kvs.length + 1 := by
  unfold putG
  split
  · rw [List.length_map]; omega
  · rw [List.length_append]; simp
theorem dc_it {J : It} {n : Nat} {G : Hp → Prop} {Y : Nat → Hp → V → Hp → Prop} (w : Walk J n G Y) {g : TG} {tt : TT} {tk tv : TE} {vs : List Nat} {σ : L2.St} {H1 : Hp} {D : Addr} {Qd : Hp → Prop} (Pv : Nat → Hp → Prop) (h0 : Pv 0 (upd H1 D (.dK []))) (hG : ∀ i H, i ≤ n → Pv i H → G H)
    (hs : ∀ i x H H', i < n → Pv i H → Y i H x H' → g x (wipe σ vs) H' fun σ2 H2 => wipe σ2 vs = wipe σ vs ∧ tt σ2 H2 fun b H3 =>
      if b = true then tk σ2 H3 fun y H4 => tv σ2 H4 fun z H5 => ∃ kvs k, y = kV k ∧ H5 D = some (.dK kvs) ∧ kvs.length < sizeLine ∧ Pv (i + 1) (upd H5 D (.dK (putK kvs k z))) else Pv (i + 1) H3) (hd : ∀ H, Pv n H → Qd H) :
    ∃ W : Nat → Nat → Hp → Prop, (∃ m, W 0 m (upd H1 D (.dK []))) ∧ ∀ i m H, W i m H →
      (J.stop i H ∧ Qd H) ∨ (J.go i H ∧ ∃ Nx : Hp → Prop, (∀ H', Nx H' → ∃ m', m' < m ∧ W (i + 1) m' H') ∧ ∀ x H', J.yld i H x H' → g x (wipe σ vs) H' fun σ2 H2 => wipe σ2 vs = wipe σ vs ∧ tt σ2 H2 fun b H3 =>
        if b = true then tk σ2 H3 fun y H4 => tv σ2 H4 fun z H5 => ∃ kvs k, y = kV k ∧ H5 D = some (.dK kvs) ∧ kvs.length < sizeLine ∧ Nx (upd H5 D (.dK (putK kvs k z))) else Nx H3) := by
  refine ⟨fun i m H => m = n - i ∧ i ≤ n ∧ Pv i H, ⟨n, by simp, Nat.zero_le _, h0⟩, ?_⟩
  rintro i m H ⟨rfl, hi, p⟩
  have q := hG i H hi p
  by_cases hlt : i < n
  · refine .inr ⟨w.goes i H hlt q, Pv (i + 1), fun H' p' => ⟨n - (i + 1), by omega, rfl, hlt, p'⟩, fun x H' y => hs i x H H' hlt p (w.yields i H x H' hlt q y)⟩
  · have e : i = n := by omega
    subst e
    exact .inl ⟨w.stops H q, hd H p⟩
section
variable {X : Cx} {b b' : Bool} {a c e tg iter kx vx : Expr} {mk mv el : SE} {pos : Pos} {g : SG} {t : SB} {src : SI} {ifs : List Expr} {scope : Scope} {own : List (Str × Nat)}
theorem dc_red (hi : MI X true tg iter src)
    (hg : ∀ (s : Shared) (H : Hp) (C : Addr) (cl : List (Str × Addr)) (fp : List Addr), MG (X.blk s H scope (compEnvC scope cl C X.env) fp) (own.map (·.2)) tg g)
    (ht : ∀ (s : Shared) (H : Hp) (C : Addr) (cl : List (Str × Addr)) (fp : List Addr), MTs (X.blk s H scope (compEnvC scope cl C X.env) fp) ifs t)
    (hk : ∀ (s : Shared) (H : Hp) (C : Addr) (cl : List (Str × Addr)) (fp : List Addr), ME (X.blk s H scope (compEnvC scope cl C X.env) fp) true kx mk)
    (he : ∀ (s : Shared) (H : Hp) (C : Addr) (cl : List (Str × Addr)) (fp : List Addr), ME (X.blk s H scope (compEnvC scope cl C X.env) fp) false vx mv) {σ : L2.St} {H : Hp} {Q : VK} (h : lFK X.G (sDc src (own.map (·.2)) g t mk mv) σ H Q) :
    tDc (lI X.G true src) (lG X.G (own.map (·.2)) g) (lT X.G t) (lE X.G true mk) (lE X.G false mv) (own.map (·.2)) σ H Q := by
  have hg' := hg {} H 0 [] []
  have ht' := ht {} H 0 [] []
  have hk' := hk {} H 0 [] []
  have he' := he {} H 0 [] []
  obtain ⟨y, dr, F, env, re, hm⟩ := h
  refine ⟨y, dr, F, env, re, hi.mono _ _ _ (fun ds hds J H1 F1 G Y re1 s1 hz W gok yok D hD => ?_) hm⟩
  have hHD : H D = none := s1.none (re1.free hD).nd hD
  refine dc_it W (fun i H2 => ∃ F2 accD accV, Re X.G y dr F2 env σ H2 ∧ Ex dr F1 H1 F2 H2 ∧ H2 D = some (.dK accV) ∧ Free y dr F2 env σ D ∧ Rks X.G F2 (kdD accD) accV ∧ accD.length ≤ i ∧ i ≤ ds.length ∧
      dcGo g t mk mv (wipeE env (own.map (·.2))) (ds.drop i) accD fun rs => ∀ p vs H' F', Re X.G y dr F' env σ H' → Ex dr F H F' H' → H p = none → H' p = some (.dK vs) → Free y dr F' env σ p → Rks X.G F' (kdD rs) vs → Q (.ref p) H') ?_ (fun i H2 _ ⟨F2, _, _, _, x2, _⟩ => gok.2 rfl H2 x2.k) ?_ ?_
  · exact ⟨F1, [], [], re1.grown hD, Ex.grown hD, upd_same, re1.free hD, .nil, Nat.le_refl _, Nat.zero_le _, by simpa using hds⟩
  · intro i x H2 H3 hi' ⟨F2, accD, accV, re2, x2, hD2, fr2, rv2, hl2, _, hgo⟩ hy
    obtain ⟨F3, x3, re3, ⟨d, hd, rvd⟩, sm3, hD3⟩ := yok i H2 x H3 hi' (gok.2 rfl H2 x2.k) hy y dr F2 env σ re2 x2.f
    have fr3 : Free y dr F3 env σ D := ⟨hD3 D fr2.nF (by rw [hD2]; simp), fr2.nH, fr2.nd, fr2.no⟩
    have hD3' : H3 D = some (.dK accV) := sm3 _ _ hD2
    obtain ⟨y', rin, out⟩ := re3.blkIn (own.map (·.2))
    have e1 : ds.drop i = d :: ds.drop (i + 1) := by
      have hlt := (List.getElem?_eq_some_iff.mp hd).1
      rw [List.drop_eq_getElem_cons hlt, (List.getElem?_eq_some_iff.mp hd).2]
    rw [e1] at hgo
    have x13 : Ex dr F1 H1 F3 H3 := x2.trans x3
    have back : ∀ (F4 H4 : Hp) (env4 : En) (σ4 : L2.St), Re X.G y' dr F4 env4 σ4 H4 → wipeE env4 (own.map (·.2)) = wipeE env (own.map (·.2)) → wipe σ4 (own.map (·.2)) = wipe σ (own.map (·.2)) → Ex dr F3 H3 F4 H4 →
        Re X.G y dr F4 env σ H4 ∧ H4 D = some (.dK accV) ∧ Free y dr F4 env σ D := fun F4 H4 env4 σ4 r4 we ws x4 => by
      obtain ⟨o1, o2, o3⟩ := out F4 H4 env4 σ4 r4 we ws x4.f
      refine ⟨o1, x4.k _ _ hD3' fr3.nd, ?_, fr3.nH, fr3.nd, fr3.no⟩
      rcases o3 D fr3.nF (by rw [hD3']; simp) with z | ⟨j, s, g1, g2, g3⟩
      · exact z
      · exact absurd g3 (fr3.no j s g1 g2)
    refine ⟨y', dr, F3, _, d, rin, rvd, hg'.mono _ _ _ _ (fun env4 hq F4 σ4 H4 r4 x4 w4 => ?_) (hg'.fr _ _ _ hgo)⟩
    obtain ⟨hq, we⟩ := hq
    have we : wipeE env4 (own.map (·.2)) = wipeE env (own.map (·.2)) := by
      rw [we]
      apply List.ext_getElem?
      intro j
      by_cases hj : j ∈ own.map (·.2)
      · by_cases hl : j < env.length
        · rw [wipeE_in hj hl, wipeE_in hj (by rw [wipeE_length]; exact hl)]
        · rw [List.getElem?_eq_none (by rw [wipeE_length, wipeE_length]; omega), List.getElem?_eq_none (by rw [wipeE_length]; omega)]
      · rw [wipeE_get hj]
    have ww : wipe (wipe σ (own.map (·.2))) (own.map (·.2)) = wipe σ (own.map (·.2)) := by
      apply List.ext_getElem?
      intro j
      by_cases hj : j ∈ own.map (·.2)
      · by_cases hl : j < σ.length
        · rw [wipe_in hj hl, wipe_in hj (by rw [wipe_length]; exact hl)]
        · rw [List.getElem?_eq_none (by rw [wipe_length, wipe_length]; omega), List.getElem?_eq_none (by rw [wipe_length]; omega)]
      · rw [wipe_get hj]
    rw [ww] at w4
    refine ⟨w4, y', dr, F4, env4, r4, ht'.mono _ _ _ (fun k hkk H5 F5 r5 x5 => ?_) hq⟩
    cases k with
    | false =>
      rw [if_neg Bool.false_ne_true] at hkk ⊢
      obtain ⟨o1, o2, o3⟩ := back F5 H5 env4 σ4 r5 we w4 (x4.trans x5)
      exact ⟨F5, accD, accV, o1, x13.trans (x4.trans x5), o2, o3, rv2.mono ((x3.trans x4).trans x5).f, Nat.le_succ_of_le hl2, hi', hkk⟩
    | true =>
      rw [if_pos rfl] at hkk ⊢
      refine ⟨y', dr, F5, env4, r5, hk'.mono _ _ _ (fun z hz v0 H6 F6 r6 x6 w6 => ?_) hkk⟩
      refine ⟨y', dr, F6, env4, r6, he'.mono _ _ _ (fun r hr v H7 F7 r7 x7 w7 => ?_) hz⟩
      cases qk : keyOf z with
      | none => rw [qk] at hr; exact hr.elim
      | some key =>
      rw [qk] at hr
      have hr : dcGo g t mk mv _ _ _ _ := hr
      obtain ⟨o1, o2, o3⟩ := back F7 H7 env4 σ4 r7 we w4 (((x4.trans x5).trans x6).trans x7)
      have rv7 : Rks X.G F7 (kdD (putG accD key r)) (putK accV key v) := rks_put w7.rv (rv2.mono ((((x3.trans x4).trans x5).trans x6).trans x7).f)
      have hlen : (putG accD key r).length ≤ i + 1 := by have := putG_len accD key r; omega
      have hz6 : accV.length < sizeLine := by rw [rks_len rv2]; omega
      refine ⟨accV, key, keyV key qk w6, o2, hz6, F7, putG accD key r, putK accV key v, ?_, ?_, upd_same, o3, rv7, hlen, hi', hr⟩
      · refine ⟨⟨fun q u eq => ?_, o1.rf.sup, o1.rf.new, fun q u eq n => ?_, fun q hq => ?_, fun q hq => ?_, o1.rf.drs, o1.rf.drn⟩, o1.len, fun j s o h1 h2 => ?_, o1.sep⟩
        · have hq : q ≠ D := fun z => by rw [z, o3.nF] at eq; cases eq
          rw [upd_ne hq]; exact o1.rf.sub q u eq
        · have hq : q ≠ D := fun z => by rw [z, o3.nH] at eq; cases eq
          rw [upd_ne hq]; exact o1.rf.gr q u eq n
        · have hqD : q ≠ D := fun z => by rw [z, o3.nH] at hq; exact hq rfl
          rw [upd_ne hqD]; exact o1.rf.dom q hq
        · obtain ⟨q1, q2⟩ := o1.rf.drw q hq
          have hqD : q ≠ D := fun z => o3.nd (by rw [← z]; exact hq.symm)
          exact ⟨q1, q2.at (upd_ne hqD)⟩
        · refine (o1.slot j s o h1 h2).keep (Same.refl _) fun q hq w => ?_
          obtain ⟨c', g1, _, g3, g4, _⟩ := (o1.slot j s o h1 h2).there w
          rw [hq] at g1; cases g1
          have : q ≠ D := fun z => o3.no j s h1 w (by rw [h2, hq, z])
          exact ⟨upd_ne this, g3, g4⟩
      · refine ⟨(x13.trans (((x4.trans x5).trans x6).trans x7)).f, fun q u eq n => ?_⟩
        have hq : q ≠ D := fun z => by rw [z, hD] at eq; cases eq
        rw [upd_ne hq]
        exact (x13.trans (((x4.trans x5).trans x6).trans x7)).k q u eq n
  · intro H2 ⟨F2, accD, accV, re2, x2, hD2, fr2, rv2, hl2, _, hgo⟩
    rw [List.drop_length] at hgo
    exact (show ∀ p vs H' F', _ from hgo) D accV H2 F2 re2 (s1.trans x2) hHD hD2 fr2 rv2
theorem dc_mono (hi : MI X true tg iter src)
    (hg : ∀ (s : Shared) (H : Hp) (C : Addr) (cl : List (Str × Addr)) (fp : List Addr), MG (X.blk s H scope (compEnvC scope cl C X.env) fp) (own.map (·.2)) tg g)
    (ht : ∀ (s : Shared) (H : Hp) (C : Addr) (cl : List (Str × Addr)) (fp : List Addr), MTs (X.blk s H scope (compEnvC scope cl C X.env) fp) ifs t)
    (hk : ∀ (s : Shared) (H : Hp) (C : Addr) (cl : List (Str × Addr)) (fp : List Addr), ME (X.blk s H scope (compEnvC scope cl C X.env) fp) true kx mk)
    (he : ∀ (s : Shared) (H : Hp) (C : Addr) (cl : List (Str × Addr)) (fp : List Addr), ME (X.blk s H scope (compEnvC scope cl C X.env) fp) false vx mv) (env : En) (P Q : List (Key × D) → Prop) (k : ∀ d, P d → Q d) (h : sDc src (own.map (·.2)) g t mk mv env P) : sDc src (own.map (·.2)) g t mk mv env Q :=
  hi.mono _ _ _ (fun ds hd => dcGo_mono (hg {} (fun _ => none) 0 [] []).mono (ht {} (fun _ => none) 0 [] []).mono (hk {} (fun _ => none) 0 [] []).mono (he {} (fun _ => none) 0 [] []).mono _ ds _ _ _ k hd) h
theorem mk_dc (hc : X.calm = true) (hN : X.N.Nodup) (hi : MI X true tg iter src) (ok : BlkOk X.N X.env.scope scope own)
    (hg : ∀ (s : Shared) (H : Hp) (C : Addr) (cl : List (Str × Addr)) (fp : List Addr), MG (X.blk s H scope (compEnvC scope cl C X.env) fp) (own.map (·.2)) tg g)
    (ht : ∀ (s : Shared) (H : Hp) (C : Addr) (cl : List (Str × Addr)) (fp : List Addr), MTs (X.blk s H scope (compEnvC scope cl C X.env) fp) ifs t)
    (hk : ∀ (s : Shared) (H : Hp) (C : Addr) (cl : List (Str × Addr)) (fp : List Addr), ME (X.blk s H scope (compEnvC scope cl C X.env) fp) true kx mk)
    (he : ∀ (s : Shared) (H : Hp) (C : Addr) (cl : List (Str × Addr)) (fp : List Addr), ME (X.blk s H scope (compEnvC scope cl C X.env) fp) false vx mv) (hs : ∀ x, foldedSetIterable iter X.env x = pure x := by intro _; rfl) :
    MK X (.DictComp kx vx [⟨tg, iter, ifs, 0⟩] scope pos) (sDc src (own.map (·.2)) g t mk mv) :=
  ⟨⟨fun pins s σ H Q I h => (pe_dc hc hN hi.run ok (fun a b c d f => (hg a b c d f).run) (fun a b c d f => (ht a b c d f).run) (fun a b c d f => (hk a b c d f).run) (fun a b c d f => (he a b c d f).run) hs).run pins s σ H Q I (dc_red hi hg ht hk he h)⟩, dc_mono hi hg ht hk he⟩
theorem ps_setDc {i : Nat} {y : Str} {py spos : Pos} {wi : TI} {g : TG} {tt : TT} {tk tv : TE} (hc : X.calm = true) (hN : X.N.Nodup) (hy : X.N[i]? = some y) (hyl : X.env.scope.names.lookup y = some .local)
    (hsw : swapsWith (.DictComp kx vx [⟨tg, iter, ifs, 0⟩] scope pos) (some (.Name y py)) spos.line X.env = pure true) (hi : PI X tg iter wi) (ok : BlkOk X.N X.env.scope scope own)
    (hg : ∀ (s : Shared) (H : Hp) (C : Addr) (cl : List (Str × Addr)) (fp : List Addr), PG (X.blk s H scope (compEnvC scope cl C X.env) fp) tg g) (ht : ∀ (s : Shared) (H : Hp) (C : Addr) (cl : List (Str × Addr)) (fp : List Addr), PTs (X.blk s H scope (compEnvC scope cl C X.env) fp) ifs tt)
    (hk : ∀ (s : Shared) (H : Hp) (C : Addr) (cl : List (Str × Addr)) (fp : List Addr), PE (X.blk s H scope (compEnvC scope cl C X.env) fp) kx tk)
    (he : ∀ (s : Shared) (H : Hp) (C : Addr) (cl : List (Str × Addr)) (fp : List Addr), PE (X.blk s H scope (compEnvC scope cl C X.env) fp) vx tv) (hs : ∀ x, foldedSetIterable iter X.env x = pure x := by intro _; rfl) :
    PS X (.Assign [.Name y py] (.DictComp kx vx [⟨tg, iter, ifs, 0⟩] scope pos) spos) (tAsg (tDc wi g tt tk tv (own.map (·.2))) (gName i)) := by
  refine ⟨fun pins s σ H D I h => ?_⟩
  rw [exec_Assign_Name_used _ _ _ _ hsw]
  refine wpAny_bind (wpAny_standAt (wpAny_bind ?_))
  show wpAny _ X.A (do let _ ← comprehension (.DictComp kx vx [⟨tg, iter, ifs, 0⟩] scope pos) scope X.env (firstIterPos [⟨tg, iter, ifs, 0⟩] pos) newDict false (eval iter X.env) (some (assign (.Name y py) X.env))) _ _ s
  have h : tDc wi g tt tk tv (own.map (·.2)) σ H (fun x H1 => gName i x σ H1 D.nx) := h
  refine wpAny_bind (thn (dc_core (Qf := fun _ s' => SP X pins D .next s') hc hN I hi ok hg ht hk he hs h fun L C s' m H' I' q hn f => ?_) fun _ s' hq => wpAny_pure (wpAny_pure hq))
  show wpAny _ _ (assign (.Name y py) X.env (.ref L)) _ _ _
  refine wpAny_assign_Name (store_ok2 (v := V.ref L) I' hN hy (.inl hyl) rfl (fun s2 I2 ⟨a, sb, ha⟩ => ?_) (.inr hyl))
  obtain ⟨f0, f1, f2, f3, f4, f5⟩ := f
  have haC : C ≠ a := by
    rcases ha with z | z
    · rw [z]; exact f1
    · exact fun e => f4 y a z e.symm
  refine ⟨m, hn.sameBut sb haC, fun h3 sb3 => ?_⟩
  exact ⟨_, H', I2.turned (t' := s2.toks) (fun b o hb e => (sb3.2 b hb).trans e) f0 f1 f3 f4 f5, q⟩
theorem sw_trueD {gs : List Comprehension} {py : Pos} {y : Str} {l : Nat} {env : Env} (hk : env.scope.kind = .function) (hy : env.scope.names.lookup y = some .local) (hl : (py.line == pos.line) = true)
    (ha : (scope.names.any fun (n, k) => n == y && (k == .local || k == .cell)) = false) : swapsWith (.DictComp kx vx gs scope pos) (some (.Name y py)) l env = pure true := by
  have ky : env.kindOf y = some .local := hy
  have hb : env.blockKind = .function := by unfold Env.blockKind; rw [hk]; rfl
  unfold swapsWith
  simp only [hb, ky, ha, Expr.pos, hl]
  rfl
theorem ms_dcO {i : Nat} {x : Str} {py spos : Pos} (hc : X.calm = true) (hN : X.N.Nodup) (hy : X.N[i]? = some x) (hyl : X.env.scope.names.lookup x = some .local)
    (hsw : swapsWith (.DictComp kx vx [⟨tg, iter, ifs, 0⟩] scope pos) (some (.Name x py)) spos.line X.env = pure true) (hi : MI X true tg iter src) (ok : BlkOk X.N X.env.scope scope own)
    (hg : ∀ (s : Shared) (H : Hp) (C : Addr) (cl : List (Str × Addr)) (fp : List Addr), MG (X.blk s H scope (compEnvC scope cl C X.env) fp) (own.map (·.2)) tg g)
    (ht : ∀ (s : Shared) (H : Hp) (C : Addr) (cl : List (Str × Addr)) (fp : List Addr), MTs (X.blk s H scope (compEnvC scope cl C X.env) fp) ifs t)
    (hk : ∀ (s : Shared) (H : Hp) (C : Addr) (cl : List (Str × Addr)) (fp : List Addr), ME (X.blk s H scope (compEnvC scope cl C X.env) fp) true kx mk)
    (he : ∀ (s : Shared) (H : Hp) (C : Addr) (cl : List (Str × Addr)) (fp : List Addr), ME (X.blk s H scope (compEnvC scope cl C X.env) fp) false vx mv) (hs : ∀ x, foldedSetIterable iter X.env x = pure x := by intro _; rfl) :
    MS X (.Assign [.Name x py] (.DictComp kx vx [⟨tg, iter, ifs, 0⟩] scope pos) spos) (sOwnD i (sDc src (own.map (·.2)) g t mk mv)) := by
  refine ⟨⟨fun pins s σ H E I h => (ps_setDc (tk := lE X.G true mk) (tv := lE X.G false mv) (tt := lT X.G t) (g := lG X.G (own.map (·.2)) g) (wi := lI X.G true src) hc hN hy hyl hsw hi.run ok (fun a b c d f => (hg a b c d f).run) (fun a b c d f => (ht a b c d f).run) (fun a b c d f => (hk a b c d f).run) (fun a b c d f => (he a b c d f).run) hs).run pins s σ H E I ?_⟩, fun a c env k h => dc_mono hi hg ht hk he _ _ _ (fun _ q => k.nx _ q) h⟩
  refine dc_red hi hg ht hk he ?_
  obtain ⟨y, dr, F, env, re, hm⟩ := h
  refine ⟨y, dr, F, env, re, dc_mono hi hg ht hk he _ _ _ (fun kvs hd p kws H' F' r1 s1 hn hp fr rv => ?_) hm⟩
  exact hd dr F' _ H' (r1.put ⟨p, kws, rfl, hp, rv, fr.nF, fr.nH, fr.nd⟩ fun _ a e j s' _ h1 h2 h3 => by cases e; exact fr.no j s' h1 h2 h3) s1.f
end
end Mi

namespace Mi
open PySem PySem.Spec L2
/-! ### min(xs), max(xs) of rows of data -/
def bestD (gt : Bool) : List D → D
  | [] => .none
  | x :: r => if gt then PySem.W.maxD x r else PySem.W.minD x r
theorem readsAll_each {h : Heap} : ∀ {us : List Value} {ps : List (V × D)}, PySem.W.EachIs (fun u (p : V × D) => ∃ as, PySem.Reads h u p.2 as) us ps → ∃ as, PySem.ReadsAll h us (ps.map (·.2)) as
  | _, _, .nil => ⟨[], .nil⟩
  | _, _, .cons r t => by
    obtain ⟨as, r⟩ := r
    obtain ⟨bs, t⟩ := readsAll_each t
    exact ⟨as ++ bs, .cons r t⟩
theorem depthAll_le {n : Nat} : ∀ {ds : List D}, (∀ d ∈ ds, d.depth ≤ n) → PyData.depthAll ds ≤ n
  | [], _ => Nat.zero_le _
  | d :: ds, h => by
    show max d.depth (PyData.depthAll ds) ≤ n
    have h1 := h d (by simp)
    have h2 := depthAll_le (n := n) (ds := ds) fun x hx => h x (by simp [hx])
    omega
theorem vals_ix {i : Nat} {u : Value} : ∀ {vs : List V} {us : List Value}, Vals vs us → us[i]? = some u → ∃ v, vs[i]? = some v ∧ RelV v u := by
  intro vs us h
  induction h generalizing i with
  | nil => intro e; cases e
  | cons r t ih =>
    intro e
    cases i with
    | zero => cases e; exact ⟨_, rfl, r⟩
    | succ i => exact ih e
def rBest (X : Cx) (gt : Bool) : List V → Hp → VK → Prop := fun xs H Q => ∃ (a : Addr) (vs : List V) (ds : List D), xs = [.ref a] ∧ (SqL X.G H a vs ∨ SqT X.G H a vs) ∧ vs.length = ds.length ∧ (∀ p ∈ vs.zip ds, Dp X.G H p.1 p.2) ∧ ds ≠ [] ∧ PySem.W.AlikeAll ds ∧ (∀ d ∈ ds, d.depth ≤ 60) ∧
  ∀ (i : Nat) (v : V), vs[i]? = some v → ds[i]? = some (bestD gt ds) → Q v H
theorem getD_some {α : Type} {xs : List α} {i : Nat} {d y : α} (h : i < xs.length) (e : xs.getD i d = y) : xs[i]? = some y := by
  rw [List.getD_eq_getElem?_getD, List.getElem?_eq_getElem h] at e
  rw [List.getElem?_eq_getElem h]
  exact congrArg some e
open PySem.W in
theorem cr_best {X : Cx} (gt : Bool) (hc : X.calm = true) (hu : X.A.units + 65 < cLine) : CallR X (.builtin (if gt then "max" else "min")) (rBest X gt) := by
  intro pins s σ H xs us Q I r h
  obtain ⟨a, vs, ds, rfl, hs, hl, hd, hne, hal, hdp, q⟩ := h
  have hh := I.ok.hd hc
  have core : ∀ its : List Value, Vals vs its → (∃ as, ReadsAll s.heap its ds as) := by
    intro its rv
    have ez := zip_vals rv hl
    have e2 := map_snd_zip hl
    have : ∀ {us : List Value} {ps : List (V × D)}, PySem.W.EachIs (fun u (p : V × D) => RelV p.1 u) us ps → (∀ p ∈ ps, Dp X.G H p.1 p.2) → PySem.W.EachIs (fun u (p : V × D) => ∃ as, PySem.Reads s.heap u p.2 as) us ps := by
      intro us ps e
      induction e with
      | nil => intro _; exact .nil
      | cons r t ih => intro h; exact .cons (Dp.reads I _ _ _ (h _ (by simp)) r) (ih fun p hp => h p (by simp [hp]))
    have := readsAll_each (this ez hd)
    rw [e2] at this
    exact this
  obtain ⟨x, xr, rfl⟩ : ∃ x xr, ds = x :: xr := by
    cases ds with
    | nil => exact absurd rfl hne
    | cons x xr => exact ⟨x, xr, rfl⟩
  have hda : PyData.depthAll (x :: xr) ≤ 60 := depthAll_le hdp
  have fin : ∀ (its : List Value) (i : Nat) (u : Value) (h' : Heap) (tk : Nat), Vals vs its → its.toArray[i]? = some u → (x :: xr)[i]? = some (bestD gt (x :: xr)) → (∀ b o, s.heap.get? b = some o → h'.get? b = some o) → EP X pins σ Q u { s with heap := h', toks := tk } := by
    intro its i u h' tk rv hi hb hk
    obtain ⟨v, h1, h2⟩ := vals_ix rv (by rw [List.getElem?_toArray] at hi; exact hi)
    exact ⟨v, H, I.kept hk, h2, q i v h1 hb⟩
  have lenI : ∀ its : List Value, Vals vs its → its.toArray.size = xr.length + 1 := fun its rv => by rw [List.size_toArray, ← Vals.length rv, hl]; rfl
  cases gt with
  | false =>
    rcases hs with hs | hs
    · obtain ⟨its, rv, pl, hz⟩ := I.list hs
      rw [Vals.ref1 r]
      obtain ⟨as, hr⟩ := core its rv
      have hr2 : ReadsAll s.heap its.toArray.toList (x :: xr) as := by simpa using hr
      refine call_min_walkH (iter_listW (A := X.A.in1) hh pl.isList fun s₂ e W st hfp hw hk => ?_)
      refine ⟨_, _, _, _, _, _, _, s.heap, _, rfl, W, st, hfp, by rw [lenI its rv]; omega, hw, hk, cmpIn_lt (A := X.A.in1) hr2 hal (by show X.A.units + 1 + _ < _; omega), fun v s' hP m => ?_⟩
      obtain ⟨h', tk, rfl, hk'⟩ := moved_old e rfl m
      have e1 : its.toArray.size - 1 = xr.length := by rw [lenI its rv]; rfl
      obtain ⟨f1, f2⟩ := argBest_fold dataLt PyData.none x xr xr.length (Nat.le_refl _)
      rw [List.take_length] at f2
      rw [e1] at hP
      exact fin its _ v h' tk rv hP (getD_some (by rw [List.length_cons]; omega) f2) hk'
    · obtain ⟨its, rv, pl, hz⟩ := I.tuple hs
      rw [Vals.ref1 r]
      obtain ⟨as, hr⟩ := core its rv
      have hr2 : ReadsAll s.heap its.toArray.toList (x :: xr) as := by simpa using hr
      refine call_min_walkH (iter_tupleW (A := X.A.in1) hh pl fun s₂ e W st hfp hw hk => ?_)
      refine ⟨_, _, _, _, _, _, _, s.heap, _, rfl, W, st, hfp, by rw [lenI its rv]; omega, hw, hk, cmpIn_lt (A := X.A.in1) hr2 hal (by show X.A.units + 1 + _ < _; omega), fun v s' hP m => ?_⟩
      obtain ⟨h', tk, rfl, hk'⟩ := moved_old e rfl m
      have e1 : its.toArray.size - 1 = xr.length := by rw [lenI its rv]; rfl
      obtain ⟨f1, f2⟩ := argBest_fold dataLt PyData.none x xr xr.length (Nat.le_refl _)
      rw [List.take_length] at f2
      rw [e1] at hP
      exact fin its _ v h' tk rv hP (getD_some (by rw [List.length_cons]; omega) f2) hk'
  | true =>
    rcases hs with hs | hs
    · obtain ⟨its, rv, pl, hz⟩ := I.list hs
      rw [Vals.ref1 r]
      obtain ⟨as, hr⟩ := core its rv
      have hr2 : ReadsAll s.heap its.toArray.toList (x :: xr) as := by simpa using hr
      refine call_max_walkH (iter_listW (A := X.A.in1) hh pl.isList fun s₂ e W st hfp hw hk => ?_)
      refine ⟨_, _, _, _, _, _, _, s.heap, _, rfl, W, st, hfp, by rw [lenI its rv]; omega, hw, hk, cmpIn_gt (A := X.A.in1) hr2 hal (by show X.A.units + 1 + _ < _; omega), fun v s' hP m => ?_⟩
      obtain ⟨h', tk, rfl, hk'⟩ := moved_old e rfl m
      have e1 : its.toArray.size - 1 = xr.length := by rw [lenI its rv]; rfl
      obtain ⟨f1, f2⟩ := argBest_fold (fun a b => dataLt b a) PyData.none x xr xr.length (Nat.le_refl _)
      rw [List.take_length] at f2
      rw [e1] at hP
      exact fin its _ v h' tk rv hP (getD_some (by rw [List.length_cons]; omega) f2) hk'
    · obtain ⟨its, rv, pl, hz⟩ := I.tuple hs
      rw [Vals.ref1 r]
      obtain ⟨as, hr⟩ := core its rv
      have hr2 : ReadsAll s.heap its.toArray.toList (x :: xr) as := by simpa using hr
      refine call_max_walkH (iter_tupleW (A := X.A.in1) hh pl fun s₂ e W st hfp hw hk => ?_)
      refine ⟨_, _, _, _, _, _, _, s.heap, _, rfl, W, st, hfp, by rw [lenI its rv]; omega, hw, hk, cmpIn_gt (A := X.A.in1) hr2 hal (by show X.A.units + 1 + _ < _; omega), fun v s' hP m => ?_⟩
      obtain ⟨h', tk, rfl, hk'⟩ := moved_old e rfl m
      have e1 : its.toArray.size - 1 = xr.length := by rw [lenI its rv]; rfl
      obtain ⟨f1, f2⟩ := argBest_fold (fun a b => dataLt b a) PyData.none x xr xr.length (Nat.le_refl _)
      rw [List.take_length] at f2
      rw [e1] at hP
      exact fin its _ v h' tk rv hP (getD_some (by rw [List.length_cons]; omega) f2) hk'
structure BestOk (xs : List D) : Prop where
  ne : xs ≠ []
  lay : ∀ d ∈ xs, d.canLay0 = true
  al : PySem.W.AlikeAll xs
  dp : ∀ d ∈ xs, d.depth ≤ 60
def sBest (gt : Bool) (m : SE) : SE := fun env Q => m env fun d => obL (seqOf d) fun xs => BestOk xs ∧ Q (bestD gt xs)
@[simp] theorem u_sBest {gt : Bool} {m : SE} {env : En} {Q : D → Prop} : sBest gt m env Q = (m env fun d => obL (seqOf d) fun xs => BestOk xs ∧ Q (bestD gt xs)) := rfl
section
variable {X : Cx} {b b' : Bool} {a : Expr} {ma : SE} {pos : Pos}
theorem best_red {gt : Bool} (ha : ME X true a ma) {σ : L2.St} {H : Hp} {Q : VK} (hq : lE X.G b' (sBest gt ma) σ H Q) : tCons (lE X.G true ma) tNil σ H fun vs H1 => rBest X gt vs H1 Q := by
  obtain ⟨y, dr, F, env, re, hm⟩ := hq
  refine ⟨y, dr, F, env, re, ha.mono _ _ _ (fun d1 h1 v1 H1 F1 r1 s1 w1 => ?_) hm⟩
  cases q : seqOf d1 with
  | none => rw [q] at h1; exact h1.elim
  | some xs =>
    rw [q] at h1
    obtain ⟨ok, h1⟩ := h1
    have h1 : ∀ v H' F', _ := h1
    have fin : ∀ {vs : List V}, Rvs X.G F1 xs vs → ∀ (i : Nat) (v : V), vs[i]? = some v → xs[i]? = some (bestD gt xs) → Q v H1 := by
      intro vs rv i v e1 e2
      obtain ⟨v', e3, e4⟩ := rv.get e2
      rw [e1] at e3; cases e3
      exact h1 v H1 F1 r1 s1 (.inl e4)
    cases d1 with
    | list zs =>
      cases q
      obtain ⟨a1, vs, rfl, e1, z1, rv⟩ := w1.list r1
      refine ⟨a1, vs, xs, rfl, .inl (SqL.of e1), rv.length.symm, fun p hp => ?_, ok.ne, ok.al, ok.dp, fin rv⟩
      have hm : p.2 ∈ xs := (List.of_mem_zip hp).2
      exact dp_mono r1.rf.sub ((rvs_zip rv p hp).dp (ok.lay _ hm))
    | tuple zs =>
      cases q
      obtain ⟨a1, vs, rfl, e1, z1, rv⟩ := w1.tuple r1
      refine ⟨a1, vs, xs, rfl, .inr (re_tuple r1 e1), rv.length.symm, fun p hp => ?_, ok.ne, ok.al, ok.dp, fin rv⟩
      have hm : p.2 ∈ xs := (List.of_mem_zip hp).2
      exact dp_mono r1.rf.sub ((rvs_zip rv p hp).dp (ok.lay _ hm))
    | _ => cases q
theorem best_mono {gt : Bool} (ha : ME X true a ma) (env : En) (P Q : D → Prop) (k : ∀ d, P d → Q d) (hp : sBest gt ma env P) : sBest gt ma env Q := ha.mono _ _ _ (fun d h1 => obL_mono (fun xs h => ⟨h.1, k _ h.2⟩) h1) hp
theorem me_minB {p : Pos} (hc : X.calm = true) (hu : X.A.units + 65 < cLine) (hg : Gl X "min") (hm : X.mg "min" = none) (ha : ME X true a ma) (he : starEach [a] X.env = (false, eval a X.env) :: starEach [] X.env := by rfl) (hpl : (backTo pos (starEach [] X.env)).any (·.1) = false := by rfl) : ME X b' (.Call (.Name "min" p) [a] [] pos) (sBest false ma) :=
  ⟨⟨fun pins s σ H Q I hq => (pe_callB (cr_best false hc hu) hg hm (by decide +kernel) (pa_cons ha.run pa_nil he) (by decide) (by decide) he hpl).run pins s σ H Q I (best_red ha hq)⟩, best_mono ha⟩
theorem me_maxB {p : Pos} (hc : X.calm = true) (hu : X.A.units + 65 < cLine) (hg : Gl X "max") (hm : X.mg "max" = none) (ha : ME X true a ma) (he : starEach [a] X.env = (false, eval a X.env) :: starEach [] X.env := by rfl) (hpl : (backTo pos (starEach [] X.env)).any (·.1) = false := by rfl) : ME X b' (.Call (.Name "max" p) [a] [] pos) (sBest true ma) :=
  ⟨⟨fun pins s σ H Q I hq => (pe_callB (cr_best true hc hu) hg hm (by decide +kernel) (pa_cons ha.run pa_nil he) (by decide) (by decide) he hpl).run pins s σ H Q I (best_red ha hq)⟩, best_mono ha⟩
end
/-! what the least is -/
theorem fold_best {α : Type} (lt : α → α → Bool) (as : ∀ a b c, lt b a = false → lt c b = false → lt c a = false) (asy : ∀ a b, lt a b = true → lt b a = false) : ∀ (xs : List α) (x : α), (xs.foldl (fun a y => if lt y a then y else a) x) ∈ x :: xs ∧ ∀ y ∈ x :: xs, lt y (xs.foldl (fun a y => if lt y a then y else a) x) = false
  | [], x => ⟨by simp, fun y hy => by
      rw [List.mem_singleton.mp hy]
      cases q : lt x x with
      | false => exact q
      | true => have := asy x x q; rw [q] at this; cases this⟩
  | z :: r, x => by
    rw [List.foldl_cons]
    obtain ⟨h1, h2⟩ := fold_best lt as asy r (if lt z x then z else x)
    have irr : ∀ a, lt a a = false := fun a => by
      cases q : lt a a with
      | false => rfl
      | true => have := asy a a q; rw [q] at this; cases this
    have hx := h2 _ (List.mem_cons_self ..)
    generalize List.foldl (fun a y => if lt y a then y else a) (if lt z x then z else x) r = m at *
    cases c : lt z x with
    | true =>
      rw [if_pos c] at h1 hx h2
      refine ⟨List.mem_cons_of_mem _ h1, fun y hy => ?_⟩
      rcases List.mem_cons.mp hy with rfl | hy
      · exact as m z y hx (asy _ _ c)
      · rcases List.mem_cons.mp hy with rfl | hy
        · exact hx
        · exact h2 y (List.mem_cons_of_mem _ hy)
    | false =>
      rw [if_neg (by rw [c]; simp)] at h1 hx h2
      refine ⟨?_, fun y hy => ?_⟩
      · rcases List.mem_cons.mp h1 with z1 | z1
        · rw [z1]; simp
        · exact List.mem_cons_of_mem _ (List.mem_cons_of_mem _ z1)
      · rcases List.mem_cons.mp hy with rfl | hy
        · exact hx
        · rcases List.mem_cons.mp hy with rfl | hy
          · exact as m x y hx c
          · exact h2 y (List.mem_cons_of_mem _ hy)
/-- min of a row of coded things -/
theorem min_enc {α : Type} (enc : α → D) (lt : α → α → Bool) (hlt : ∀ a b, PySem.W.dataLt (enc a) (enc b) = lt a b) : ∀ (xs : List α) (x : α), PySem.W.minD (enc x) (xs.map enc) = enc (xs.foldl (fun a y => if lt y a then y else a) x)
  | [], x => rfl
  | z :: r, x => by
    show PySem.W.minD (if PySem.W.dataLt (enc z) (enc x) = true then enc z else enc x) (r.map enc) = _
    rw [hlt]
    cases c : lt z x with
    | true => rw [if_pos rfl, min_enc enc lt hlt r z, List.foldl_cons, c]; rfl
    | false => rw [if_neg (by simp), min_enc enc lt hlt r x, List.foldl_cons, c]; rfl
end Mi

namespace Mi
open PySem PySem.Spec L2
/-! ### plain helpers: xs[i] = v, zip, enumerate over coded rows -/
def setK (xs : List D) (d ix : D) (P : List D → Prop) : Prop := match ix with
  | .int k => (match ixN xs.length k with
    | some j => P (xs.set j d)
    | none => False)
  | _ => False
@[simp] theorem u_sSet {i : Nat} {mi mv : SE} {K : Ks} {env : En} : sSet i mi mv K env = (ownL env i fun xs => mv env fun d => mi env fun ix => setK xs d ix fun ys => K.nx (env.set i (.l ys))) := rfl
theorem setK_at {xs : List D} {d : D} {k : Int} {P : List D → Prop} (h0 : 0 ≤ k) (h1 : k < xs.length) : setK xs d (.int k) P = P (xs.set k.toNat d) := by
  have e : ixN xs.length k = some k.toNat := by unfold ixN; rw [if_pos h0, if_pos h1]
  show (match ixN xs.length k with | some j => P (xs.set j d) | none => False) = _
  rw [e]
theorem setK_end {xs : List D} {a d : D} {P : List D → Prop} : setK (xs ++ [a]) d (.int (-1)) P = P (xs ++ [d]) := by
  have e : ixN (xs ++ [a]).length (-1) = some xs.length := by
    unfold ixN
    rw [if_neg (by omega), if_pos (by simp; omega)]
    simp; omega
  show (match ixN (xs ++ [a]).length (-1) with | some j => P ((xs ++ [a]).set j d) | none => False) = _
  rw [e]
  simp
theorem dI_set (xs : List Int) (i : Nat) (a : Int) : (dInts xs).set i (.int a) = dInts (xs.set i a) := by unfold dInts; rw [List.map_set]
theorem dI_eq {α : Type} (xs : List α) (f : α → Int) : (xs.map fun a => PyData.int (f a)) = dInts (xs.map f) := by unfold dInts; rw [List.map_map]; rfl
def enumI {α : Type} : Int → List α → List (Int × α)
  | _, [] => []
  | k, a :: r => (k, a) :: enumI (k + 1) r
theorem enumL_map {α : Type} (f : α → D) : ∀ (k : Int) (xs : List α), enumL k (xs.map f) = (enumI k xs).map fun p => .tuple [.int p.1, f p.2]
  | _, [] => rfl
  | k, x :: xs => by simp [enumL, enumI, enumL_map f (k + 1) xs]
theorem enumI_len {α : Type} : ∀ (k : Int) (xs : List α), (enumI k xs).length = xs.length
  | _, [] => rfl
  | k, x :: xs => by simp [enumI, enumI_len (k + 1) xs]
theorem enumI_app {α : Type} : ∀ (k : Int) (xs ys : List α), enumI k (xs ++ ys) = enumI k xs ++ enumI (k + xs.length) ys
  | k, [], ys => by simp [enumI]
  | k, x :: xs, ys => by
    simp only [List.cons_append, enumI, enumI_app (k + 1) xs ys, List.length_cons]
    rw [show k + 1 + (xs.length : Int) = k + ((xs.length + 1 : Nat) : Int) by omega]
theorem enumI_range {α : Type} (f : Nat → α) : ∀ (n s : Nat), enumI (s : Int) ((List.range' s n).map f) = (List.range' s n).map fun k : Nat => ((k : Int), f k)
  | 0, _ => rfl
  | n + 1, s => by
    have := enumI_range f n (s + 1)
    simp only [List.range'_succ, List.map_cons, enumI]
    rw [show (s : Int) + 1 = ((s + 1 : Nat) : Int) by omega, this]
theorem enumI_map {α β : Type} (f : α → β) : ∀ (k : Int) (xs : List α), enumI k (xs.map f) = (enumI k xs).map fun p => (p.1, f p.2)
  | _, [] => rfl
  | k, x :: xs => by simp [enumI, enumI_map f (k + 1) xs]
theorem enumI_get {α : Type} : ∀ (k : Int) (xs : List α) (i : Nat), (enumI k xs)[i]? = (xs[i]?).map fun a => (k + (i : Int), a)
  | _, [], _ => by simp [enumI]
  | k, x :: xs, 0 => by simp [enumI]
  | k, x :: xs, i + 1 => by
    simp only [enumI, List.getElem?_cons_succ, enumI_get (k + 1) xs i]
    congr 1
    funext a
    rw [show k + 1 + (i : Int) = k + ((i + 1 : Nat) : Int) by omega]
/-! ### coded things: == is equality -/
def flatD : Nat → D → Bool
  | 0, _ => false
  | n + 1, .list xs => xs.all (flatD n)
  | n + 1, .tuple xs => xs.all (flatD n)
  | _, .none => true
  | _, .bool _ => true
  | _, .int _ => true
  | _, .str s => (PyData.str s).canLay0
  | _, _ => false
theorem flat_lay : ∀ (n : Nat) (d : D), flatD n d = true → d.canLay0 = true ∧ d.depth ≤ n
  | 0, d, h => by cases h
  | n + 1, .none, h => ⟨rfl, Nat.zero_le _⟩
  | n + 1, .bool b, h => ⟨rfl, Nat.zero_le _⟩
  | n + 1, .int i, h => ⟨rfl, Nat.zero_le _⟩
  | n + 1, .str s, h => ⟨h, Nat.zero_le _⟩
  | n + 1, .dict _, h => nomatch h
  | n + 1, .list xs, h => by
    have h : xs.all (flatD n) = true := h
    have : ∀ ys : List D, ys.all (flatD n) = true → PyData.canLayAll0 ys = true ∧ PyData.depthAll ys ≤ n := by
      intro ys
      induction ys with
      | nil => intro _; exact ⟨rfl, Nat.zero_le _⟩
      | cons y ys ih =>
        intro hy
        rw [List.all_cons, Bool.and_eq_true] at hy
        obtain ⟨a, b⟩ := flat_lay n y hy.1
        obtain ⟨c, d⟩ := ih hy.2
        refine ⟨?_, ?_⟩
        · show (PyData.canLay0 y && PyData.canLayAll0 ys) = true
          rw [a, c]; rfl
        · show max (PyData.depth y) (PyData.depthAll ys) ≤ n
          omega
    obtain ⟨a, b⟩ := this xs h
    exact ⟨a, by show PyData.depthAll xs + 1 ≤ n + 1; omega⟩
  | n + 1, .tuple xs, h => by
    have h : xs.all (flatD n) = true := h
    have : ∀ ys : List D, ys.all (flatD n) = true → PyData.canLayAll0 ys = true ∧ PyData.depthAll ys ≤ n := by
      intro ys
      induction ys with
      | nil => intro _; exact ⟨rfl, Nat.zero_le _⟩
      | cons y ys ih =>
        intro hy
        rw [List.all_cons, Bool.and_eq_true] at hy
        obtain ⟨a, b⟩ := flat_lay n y hy.1
        obtain ⟨c, d⟩ := ih hy.2
        refine ⟨?_, ?_⟩
        · show (PyData.canLay0 y && PyData.canLayAll0 ys) = true
          rw [a, c]; rfl
        · show max (PyData.depth y) (PyData.depthAll ys) ≤ n
          omega
    obtain ⟨a, b⟩ := this xs h
    exact ⟨a, by show PyData.depthAll xs + 1 ≤ n + 1; omega⟩
theorem flat_shaped {n : Nat} {d : D} (h : flatD n d = true) (hn : n ≤ 64 := by decide) : SeqAt.shaped d = true := by
  obtain ⟨a, b⟩ := flat_lay n d h
  exact Bool.and_eq_true_iff.mpr ⟨a, decide_eq_true (by omega)⟩
@[simp] theorem flat_i {n : Nat} {i : Int} : flatD (n + 1) (.int i) = true := rfl
@[simp] theorem flat_s {n : Nat} {i : Str} : flatD (n + 1) (.str i) = (PyData.str i).canLay0 := rfl
@[simp] theorem flat_b {n : Nat} {i : Bool} : flatD (n + 1) (.bool i) = true := rfl
@[simp] theorem flat_n {n : Nat} : flatD (n + 1) .none = true := rfl
@[simp] theorem flat_l {n : Nat} {xs : List D} : flatD (n + 1) (.list xs) = xs.all (flatD n) := rfl
@[simp] theorem flat_t {n : Nat} {xs : List D} : flatD (n + 1) (.tuple xs) = xs.all (flatD n) := rfl
/-- a way to write things as data: == tells them apart -/
structure Cod {α : Type} [DecidableEq α] (enc : α → D) : Prop where
  eq : ∀ a b, PyData.eqv (enc a) (enc b) = decide (a = b)
theorem cod_int : Cod PyData.int := ⟨fun _ _ => rfl⟩
theorem cod_str : Cod PyData.str := ⟨fun _ _ => rfl⟩
theorem flat_up : ∀ (n : Nat) (d : D), flatD n d = true → flatD (n + 1) d = true := by
  intro n
  induction n with
  | zero => intro d h; cases h
  | succ n ih =>
    intro d h
    cases d with
    | list xs =>
      have h : xs.all (flatD n) = true := h
      show xs.all (flatD (n + 1)) = true
      rw [List.all_eq_true] at h ⊢
      exact fun x hx => ih x (h x hx)
    | tuple xs =>
      have h : xs.all (flatD n) = true := h
      show xs.all (flatD (n + 1)) = true
      rw [List.all_eq_true] at h ⊢
      exact fun x hx => ih x (h x hx)
    | dict _ => cases h
    | none => rfl
    | bool _ => rfl
    | int _ => rfl
    | str _ => exact h
section
variable {α : Type} [DecidableEq α] {enc : α → D} {n : Nat}
theorem Cod.eqvAll (h : Cod enc) : ∀ xs ys : List α, PyData.eqvAll (xs.map enc) (ys.map enc) = decide (xs = ys)
  | [], [] => rfl
  | [], _ :: _ => rfl
  | _ :: _, [] => rfl
  | x :: xs, y :: ys => by
    show (PyData.eqv (enc x) (enc y) && PyData.eqvAll (xs.map enc) (ys.map enc)) = _
    rw [Cod.eqvAll h xs ys, h.eq]
    by_cases h1 : x = y <;> by_cases h2 : xs = ys <;> simp [h1, h2]
theorem flats {xs : List α} (h : ∀ x ∈ xs, flatD n (enc x) = true) : (xs.map enc).all (flatD n) = true := by
  rw [List.all_eq_true]
  intro d hd
  obtain ⟨a, ha, rfl⟩ := List.mem_map.mp hd
  exact h a ha
theorem Cod.list (h : Cod enc) : Cod (fun xs : List α => PyData.list (xs.map enc)) := ⟨fun a b => h.eqvAll a b⟩
theorem Cod.tup (h : Cod enc) : Cod (fun xs : List α => PyData.tuple (xs.map enc)) := ⟨fun a b => h.eqvAll a b⟩
theorem Cod.pair {β : Type} [DecidableEq β] {enc2 : β → D} (h : Cod enc) (h2 : Cod enc2) : Cod (fun p : α × β => PyData.tuple [enc p.1, enc2 p.2]) := by
  refine ⟨fun a b => ?_⟩
  show (PyData.eqv (enc a.1) (enc b.1) && (PyData.eqv (enc2 a.2) (enc2 b.2) && true)) = _
  rw [h.eq, h2.eq]
  obtain ⟨a1, a2⟩ := a
  obtain ⟨b1, b2⟩ := b
  by_cases h1 : a1 = b1 <;> by_cases h2 : a2 = b2 <;> simp [h1, h2]
theorem Cod.trip {β γ : Type} [DecidableEq β] [DecidableEq γ] {enc2 : β → D} {enc3 : γ → D} (h : Cod enc) (h2 : Cod enc2) (h3 : Cod enc3) : Cod (fun p : α × β × γ => PyData.tuple [enc p.1, enc2 p.2.1, enc3 p.2.2]) := by
  refine ⟨fun a b => ?_⟩
  show (PyData.eqv (enc a.1) (enc b.1) && (PyData.eqv (enc2 a.2.1) (enc2 b.2.1) && (PyData.eqv (enc3 a.2.2) (enc3 b.2.2) && true))) = _
  rw [h.eq, h2.eq, h3.eq]
  obtain ⟨a1, a2, a3⟩ := a
  obtain ⟨b1, b2, b3⟩ := b
  by_cases h1 : a1 = b1 <;> by_cases h2 : a2 = b2 <;> by_cases h3 : a3 = b3 <;> simp [h1, h2, h3]
theorem Cod.eqB (h : Cod enc) {a b : α} (ha : flatD n (enc a) = true) (hb : flatD n (enc b) = true) (hn : n ≤ 64) : eqB (enc a) (enc b) = some (decide (a = b)) := by
  have he := h.eq a b
  have sa := flat_shaped ha hn
  have sb := flat_shaped hb hn
  unfold Mi.eqB
  split
  · rename_i i j e1 e2
    rw [e1, e2] at he
    rw [← he]; rfl
  · rename_i i j e1 e2
    rw [e1, e2] at he
    rw [← he]; rfl
  · rename_i i j e1 e2
    rw [e1, e2] at he
    rw [← he]; rfl
  · rw [if_pos ⟨sa, sb⟩, he]
theorem Cod.eqD (h : Cod enc) {a b : α} (ha : flatD n (enc a) = true) (hb : flatD n (enc b) = true) (hn : n ≤ 64 := by decide) : eqD (enc a) (enc b) = some (.bool (decide (a = b))) := by
  unfold Mi.eqD; rw [h.eqB ha hb hn]; rfl
theorem Cod.neD (h : Cod enc) {a b : α} (ha : flatD n (enc a) = true) (hb : flatD n (enc b) = true) (hn : n ≤ 64 := by decide) : neD (enc a) (enc b) = some (.bool (!decide (a = b))) := by
  unfold Mi.neD; rw [h.eqB ha hb hn]; rfl
theorem Cod.any (h : Cod enc) (xs : List α) (a : α) : ((xs.map enc).any fun z => PyData.eqv z (enc a)) = decide (a ∈ xs) := by
  induction xs with
  | nil => rfl
  | cons y ys ih =>
    show (PyData.eqv (enc y) (enc a) || (ys.map enc).any fun z => PyData.eqv z (enc a)) = _
    rw [ih, h.eq]
    by_cases h1 : a = y
    · subst h1; simp
    · have : ¬ y = a := fun z => h1 z.symm
      simp [h1, this]
theorem shL {xs : List α} (h : ∀ x ∈ xs, flatD n (enc x) = true) (hn : n + 1 ≤ 64) : SeqAt.shaped (.list (xs.map enc)) = true := flat_shaped (n := n + 1) (flats h) hn
theorem shT {xs : List α} (h : ∀ x ∈ xs, flatD n (enc x) = true) (hn : n + 1 ≤ 64) : SeqAt.shaped (.tuple (xs.map enc)) = true := flat_shaped (n := n + 1) (flats h) hn
theorem inB_l {x : D} {ds : List D} (h1 : SeqAt.shaped x = true) (h2 : SeqAt.shaped (.list ds) = true) : inB x (.list ds) = some (ds.any fun z => PyData.eqv z x) := by
  unfold inB
  cases x <;> exact if_pos ⟨h1, h2⟩
theorem inB_t {x : D} {ds : List D} (h1 : SeqAt.shaped x = true) (h2 : SeqAt.shaped (.tuple ds) = true) : inB x (.tuple ds) = some (ds.any fun z => PyData.eqv z x) := by
  unfold inB
  cases x <;> exact if_pos ⟨h1, h2⟩
theorem Cod.inL (h : Cod enc) {xs : List α} {a : α} (ha : flatD n (enc a) = true) (hx : ∀ x ∈ xs, flatD n (enc x) = true) (hn : n + 1 ≤ 64) : inB (enc a) (.list (xs.map enc)) = some (decide (a ∈ xs)) := by
  rw [← h.any xs a]
  exact inB_l (flat_shaped ha (by omega)) (shL hx hn)
theorem Cod.inT (h : Cod enc) {xs : List α} {a : α} (ha : flatD n (enc a) = true) (hx : ∀ x ∈ xs, flatD n (enc x) = true) (hn : n + 1 ≤ 64) : inB (enc a) (.tuple (xs.map enc)) = some (decide (a ∈ xs)) := by
  rw [← h.any xs a]
  exact inB_t (flat_shaped ha (by omega)) (shT hx hn)
theorem Cod.inDL (h : Cod enc) {xs : List α} {a : α} (ha : flatD n (enc a) = true) (hx : ∀ x ∈ xs, flatD n (enc x) = true) (hn : n + 1 ≤ 64 := by decide) : inD (enc a) (.list (xs.map enc)) = some (.bool (decide (a ∈ xs))) := by unfold inD; rw [h.inL ha hx hn]; rfl
theorem Cod.inDT (h : Cod enc) {xs : List α} {a : α} (ha : flatD n (enc a) = true) (hx : ∀ x ∈ xs, flatD n (enc x) = true) (hn : n + 1 ≤ 64 := by decide) : inD (enc a) (.tuple (xs.map enc)) = some (.bool (decide (a ∈ xs))) := by unfold inD; rw [h.inT ha hx hn]; rfl
theorem Cod.ninDL (h : Cod enc) {xs : List α} {a : α} (ha : flatD n (enc a) = true) (hx : ∀ x ∈ xs, flatD n (enc x) = true) (hn : n + 1 ≤ 64 := by decide) : ninD (enc a) (.list (xs.map enc)) = some (.bool (!decide (a ∈ xs))) := by unfold ninD; rw [h.inL ha hx hn]; rfl
theorem Cod.ninDT (h : Cod enc) {xs : List α} {a : α} (ha : flatD n (enc a) = true) (hx : ∀ x ∈ xs, flatD n (enc x) = true) (hn : n + 1 ≤ 64 := by decide) : ninD (enc a) (.tuple (xs.map enc)) = some (.bool (!decide (a ∈ xs))) := by unfold ninD; rw [h.inT ha hx hn]; rfl
theorem Cod.idx (h : Cod enc) {xs : List α} {a : α} (ha : flatD n (enc a) = true) (hx : ∀ x ∈ xs, flatD n (enc x) = true) (hn : n + 1 ≤ 64 := by decide) : idxL (xs.map enc) (enc a) = (xs.findIdx? fun z => decide (z = a)).map fun j => PyData.int (j : Int) := by
  unfold idxL
  rw [if_pos ⟨shL hx hn, flat_shaped ha (by omega)⟩, List.findIdx?_map]
  have : ((fun z => PyData.eqv z (enc a)) ∘ enc) = fun z => decide (z = a) := funext fun z => h.eq z a
  rw [this]
theorem Cod.cnt (h : Cod enc) {xs : List α} {a : α} (ha : flatD n (enc a) = true) (hx : ∀ x ∈ xs, flatD n (enc x) = true) (hn : n + 1 ≤ 64 := by decide) : cntL (xs.map enc) (enc a) = some (.int ((xs.count a : Nat) : Int)) := by
  unfold cntL
  rw [if_pos ⟨shL hx hn, flat_shaped ha (by omega)⟩, List.countP_map]
  have : ((fun z => PyData.eqv z (enc a)) ∘ enc) = fun z => z == a := funext fun z => h.eq z a
  rw [this]; rfl
end
end Mi

namespace Mi
open PySem PySem.Spec L2
/-! ### plain helpers: dicts -/
theorem mergeG_nodup : ∀ (more kvs : List (Key × D)), ((kvs ++ more).map (·.1)).Nodup → mergeG kvs more = kvs ++ more
  | [], kvs, _ => by simp [mergeG]
  | p :: r, kvs, h => by
    have e : putG kvs p.1 p.2 = kvs ++ [p] := by
      unfold putG
      rw [if_neg]
      rw [List.any_eq_true]
      rintro ⟨q, hq, e⟩
      rw [List.map_append, List.nodup_append] at h
      exact h.2.2 q.1 (List.mem_map_of_mem hq) p.1 (by simp) (by simpa using e)
    show mergeG (putG kvs p.1 p.2) r = _
    rw [e, mergeG_nodup r (kvs ++ [p]) (by simpa using h)]
    simp

theorem pairsOf_map {α : Type} (k : α → Key) (f : α → D) : ∀ xs : List α, pairsOf (xs.map fun a => .tuple [kD (k a), f a]) = some (xs.map fun a => (k a, f a))
  | [] => rfl
  | x :: xs => by
    show (keyOf (kD (k x))).bind (fun q => (pairsOf (xs.map _)).map fun l => (q, f x) :: l) = _
    rw [pairsOf_map k f xs, keyOf_kD]; rfl
theorem getG_nodup {β : Type} : ∀ (kvs : List (Key × β)), (kvs.map (·.1)).Nodup → ∀ p ∈ kvs, getG kvs p.1 = some p.2
  | [], _, p, hp => by cases hp
  | q :: r, h, p, hp => by
    rw [List.map_cons, List.nodup_cons] at h
    rcases List.mem_cons.mp hp with rfl | hp
    · simp [getG]
    · have : ¬ q.1 = p.1 := fun e => h.1 (by rw [e]; exact List.mem_map_of_mem hp)
      have e : getG (q :: r) p.1 = getG r p.1 := by simp [getG, this]
      rw [e, getG_nodup r h.2 p hp]
theorem getG_map {α β : Type} (k : α → Key) (f : α → β) {xs : List α} (hn : (xs.map k).Nodup) {a : α} (ha : a ∈ xs) : getG (xs.map fun a => (k a, f a)) (k a) = some (f a) := by
  refine getG_nodup _ ?_ (k a, f a) (List.mem_map.mpr ⟨a, ha, rfl⟩)
  rw [List.map_map]; exact hn
theorem getG_none {β : Type} {k : Key} : ∀ {kvs : List (Key × β)}, (∀ p ∈ kvs, p.1 ≠ k) → getG kvs k = none
  | [], _ => rfl
  | q :: r, h => by
    have : ¬ q.1 = k := h q (by simp)
    have e : getG (q :: r) k = getG r k := by simp [getG, this]
    rw [e, getG_none fun p hp => h p (by simp [hp])]
theorem kinr_nodup {xs : List Str} (h : xs.Nodup) : (xs.map fun x => (.inr x : Key)).Nodup := by
  unfold List.Nodup at h ⊢
  rw [List.pairwise_map]
  exact h.imp fun h e => h (by cases e; rfl)
theorem kinl_nodup {xs : List Int} (h : xs.Nodup) : (xs.map fun x => (.inl x : Key)).Nodup := by
  unfold List.Nodup at h ⊢
  rw [List.pairwise_map]
  exact h.imp fun h e => h (by cases e; rfl)
/-- a comprehension that draws: each item of its own kind -/
theorem lc_dem3 {α β : Type} {enc : α → D} {g : SG} {el : SE} {env : En} {f : β → D} {P : α → β → Prop} : ∀ (xs : List α) (Q : List D → Prop),
    (∀ a ∈ xs, ∀ (R : D → Prop), (∀ r, P a r → R (f r)) → g (enc a) env fun e1 => el e1 R) → (∀ rs : List β, rs.length = xs.length → (∀ i (h1 : i < xs.length) (h2 : i < rs.length), P xs[i] rs[i]) → Q (rs.map f)) → lcGo g tYes' el env (xs.map enc) Q
  | [], Q, _, h => h [] rfl (fun i h => by cases h)
  | a :: xs, Q, hs, h => by
    have h1 := hs a (by simp) (fun r => lcGo g tYes' el env (xs.map enc) fun rs => Q (r :: rs)) fun r hr => lc_dem3 (P := P) xs _ (fun b hb => hs b (by simp [hb])) fun rs hl hrs => h (r :: rs) (by simp [hl]) fun i g1 g2 => by
      cases i with
      | zero => exact hr
      | succ i => exact hrs i (by simpa using g1) (by simpa using g2)
    exact h1
end Mi

namespace HT
open PySem PySem.Spec PyProof.Rows L2
section
variable {prog : Program} {w : World} {A : Around} {E : Value → Shared → Prop} {s : Shared}
theorem places_back (n : Nat) : Builtin.Slice.slicePlaces ((n : Int) - 1) (-1) (-1) = n := by
  unfold Builtin.Slice.slicePlaces
  simp
  split <;> omega
theorem sliceApplied_back {sl : Addr} {vl vu vs : Value} {n : Nat} {Q : Int × Int × Nat → Shared → Prop} (hs : s.heap.IsSliceOf sl vl vu vs) (pl : IsPart vl none) (pu : IsPart vu none) (ps : IsPart vs (some (-1)))
    (h : Q ((n : Int) - 1, -1, n) s) : wpAny (model prog w) A (Builtin.Slice.sliceApplied (.ref sl) (pure (n : Int))) Q E s := by
  obtain ⟨os, hos, hcs, hds⟩ := id hs
  unfold Builtin.Slice.sliceApplied Builtin.Slice.sliceFields
  refine wpAny_bind (wpAny_bind (wpAny_field hos hds (x := vl) rfl (wpAny_bind (wpAny_field hos hds (x := vu) rfl (wpAny_bind (wpAny_field hos hds (x := vs) rfl (wpAny_pure ?_)))))))
  refine wpAny_bind (slicePart_ ps ?_)
  show wpAny _ _ (if ((-1 : Int) == 0) = true then _ else _) _ _ s
  rw [if_neg (by decide)]
  refine wpAny_bind (slicePart_ pl (wpAny_bind (slicePart_ pu (wpAny_bind (wpAny_pure ?_)))))
  show wpAny _ _ (match Builtin.Slice.sliceAdjust none none (-1) (n : Int) with | (lo, hi) => pure (lo, (-1 : Int), Builtin.Slice.slicePlaces lo hi (-1))) _ _ s
  have e : Builtin.Slice.sliceAdjust none none (-1) (n : Int) = ((n : Int) - 1, -1) := by
    first
    | rfl
    | simp [Builtin.Slice.sliceAdjust]
  rw [e]
  show wpAny _ _ (pure ((n : Int) - 1, (-1 : Int), Builtin.Slice.slicePlaces ((n : Int) - 1) (-1) (-1))) _ _ s
  rw [places_back]
  exact wpAny_pure h
theorem fm_congr {α β : Type} {f g : α → Option β} : ∀ {l : List α}, (∀ x ∈ l, f x = g x) → l.filterMap f = l.filterMap g
  | [], _ => rfl
  | a :: l, h => by rw [List.filterMap_cons, List.filterMap_cons, h a (by simp), fm_congr fun x hx => h x (by simp [hx])]
theorem pick_back (xs : Array Value) : ((List.range xs.size).filterMap fun (m : Nat) => xs[((xs.size : Int) - 1 + (m : Int) * -1).toNat]?).toArray = xs.toList.reverse.toArray := by
  congr 1
  have e : (List.range xs.size).filterMap (fun (m : Nat) => xs[((xs.size : Int) - 1 + (m : Int) * -1).toNat]?) = ((List.range xs.size).map fun k => xs.size - 1 - k).filterMap (xs[·]?) := by
    rw [List.filterMap_map]
    refine fm_congr fun m hm => ?_
    have : ((xs.size : Int) - 1 + (m : Int) * -1).toNat = xs.size - 1 - m := by omega
    simp only [Function.comp_apply, this]
  rw [e, PySem.W.krv_range, List.filterMap_reverse, PySem.W.krv_all]
theorem getItem_tuple_back {t sl : Addr} {items : Array Value} {vl vu vs : Value} {Q : Value → Shared → Prop} (ht : IsTup s.heap t items) (hs : s.heap.IsSliceOf sl vl vu vs) (pl : IsPart vl none) (pu : IsPart vu none) (ps : IsPart vs (some (-1)))
    (h : Q (.ref s.heap.objs.size) { s with heap := s.heap.push { cls := .type "tuple", data := .seq items.toList.reverse.toArray } })
    (hsz : items.size ≤ sizeLine) : wpAny (model prog w) A (getItem (.ref t) (.ref sl)) Q E s := by
  have htake : sizeOk (.seq items.toList.reverse.toArray) := by
    show items.toList.reverse.toArray.size ≤ sizeLine
    rw [List.size_toArray, List.length_reverse, Array.length_toList]
    exact hsz
  obtain ⟨os, hos, hcs, hds⟩ := id hs
  have hTs : s.TypeIs (.ref sl) "slice" := ⟨os, hos, hcs⟩
  unfold getItem
  try with_reducible refine wpAny_holding ?_
  first | refine wpAny_bind (wpAny_pure ?_) | skip
  refine wpAny_bind (wpAny_sequenceKey ht.typeIs (by decide) ?_)
  refine wpAny_bind (wpAny_callSpecial?_slot (name := Str.ofString "__getitem__") ht.typeIs PyProof.Rows.slot_tuple_getitem
    (wpAny_call_entry PyProof.Rows.slot_tuple_getitem ht.typeIs entry_tuple_getitem ?_ (args_tuple_getitem _ _)))
  show wpAny _ _ (Builtin.Tuple.tupleItemsOf (.ref t) >>= _) _ _ s
  refine wpAny_bind (tupleItemsOf_ ht ?_)
  refine wpAny_bind (wpAny_typeOf hTs ?_)
  rw [if_pos (by decide)]
  refine wpAny_bind (sliceApplied_back (n := items.size) hs pl pu ps ?_)
  have hno : ¬ (((((items.size : Int) - 1) == 0 && (-1 : Int) == 1 && items.size == items.size)) = true) := by
    intro q
    rw [Bool.and_eq_true, Bool.and_eq_true] at q
    exact absurd (eq_of_beq q.1.2) (by decide)
  show wpAny _ _ (if ((((items.size : Int) - 1) == 0 && (-1 : Int) == 1 && items.size == items.size)) = true then _ else _) _ _ s
  rw [if_neg hno, pick_back]
  first
    | exact wpAny_bind (m := Builtin.Tuple.tupleExact _) (wpAny_newObj_type (wpAny_pure ⟨_, rfl, wpAny_pure h⟩) htake)
    | exact wpAny_bind (m := Builtin.Tuple.tupleExact _) (wpAny_newObj_type (wpAny_bind (wpAny_pure (wpAny_pure ⟨_, rfl, wpAny_pure h⟩))) htake)
    | exact wpAny_bind (wpAny_bind (m := Builtin.Tuple.tupleExact _) (wpAny_newObj_type (wpAny_pure (wpAny_pure ⟨_, rfl, wpAny_pure h⟩)) htake))
    | exact wpAny_bind (wpAny_bind (m := Builtin.Tuple.tupleExact _) (wpAny_newObj_type (wpAny_pure ⟨_, rfl, wpAny_pure h⟩) htake))
end
end HT
namespace Mi
open PySem PySem.Spec L2 PyProof.Rows
/-! ### xs[::k], k one or minus one -/
theorem pick_fwd (items : Array Value) : slicePick items none none (some 1) = items.toList.toArray := by
  have h : slicePick items none none (some 1) = slicePick items none none none := rfl
  unfold slicePick
  have hb : sliceBounds none none (some 1) items.size = (0, (items.size : Int), 1) := by
    first
    | rfl
    | simp [sliceBounds]
  rw [hb]
  show ((sliceRange 0 (items.size : Int) 1).filterMap (items[·]?)).toArray = _
  have hr : sliceRange 0 (items.size : Int) 1 = List.range items.size := by
    unfold sliceRange
    simp
    congr 1
    split <;> omega
  rw [hr, PySem.W.krv_all]
def rStep (K : Fg) : V → Int → Hp → VK → Prop := fun x c H Q => ∃ a xs, x = .ref a ∧
  ((SqL K H a xs ∧ (c = 1 ∨ c = -1) ∧ ∀ p, H p = none → Q (.ref p) (upd H p (.lst (if c = 1 then xs else xs.reverse)))) ∨
   (SqT K H a xs ∧ c = -1 ∧ NewT xs.reverse H Q))
def tStep (K : Fg) (te ts : TE) : TE := fun σ H Q => te σ H fun x H1 => ts σ H1 fun z H2 => ∃ c, z = .int c ∧ rStep K x c H2 Q
theorem pe_step {X : Cx} {e s : Expr} {te ts : TE} {p3 pos : Pos} (he : PE X e te) (hst : PE X s ts) : PE X (.Subscript e (.Slice none none (some s) p3) pos) (tStep X.G te ts) := by
  refine ⟨fun pins s1 σ H Q I h => ?_⟩
  refine Subscript_ (thn (he.run pins s1 σ H _ I h) fun v s1 ⟨x, H1, I1, r1, q1⟩ => ?_)
  have hso : PO X (some s) (tPart ts) := po_some hst
  refine wpAny_Slice (thn (po_none.run pins s1 σ H1 (fun o H2 => o = none ∧ H2 = H1) I1 ⟨rfl, rfl⟩) fun vl s2 ⟨l, H2, I2, pl, el, e2⟩ => ?_)
  subst el e2
  refine thn (po_none.run pins s2 σ H2 (fun o H3 => o = none ∧ H3 = H2) I2 ⟨rfl, rfl⟩) fun vu s3 ⟨u, H3, I3, pu, eu, e3⟩ => ?_
  subst eu e3
  refine thn (hso.run pins s3 σ H3 (fun o H4 => ∃ c, o = some c ∧ rStep X.G x c H4 Q) I3 ?_) fun vs s4 ⟨o, H4, I4, ps, c, eo, q⟩ => ?_
  · refine (?_ : ts σ H3 _)
    have : (fun z H2 => ∃ c, z = V.int c ∧ rStep X.G x c H2 Q) = fun z H2 => ∃ i, z = V.int i ∧ (fun o H4 => ∃ c, o = some c ∧ rStep X.G x c H4 Q) (some i) H2 := by
      funext z H2
      simp
    rw [this] at q1
    exact q1
  · subst eo
    obtain ⟨a, xs, ex, q⟩ := q
    subst ex
    cases r1
    have I5 : Inv X pins σ H4 { s4 with heap := s4.heap.push { cls := .type "slice", data := .fields #[vl, vu, vs] } } := I4.kept (t' := s4.toks) fun b ob q => Heap.get?_push_of_some _ q
    show wpAny (model X.prog X.w) X.A (subscriptTail e (.Slice none none (some s) p3) (.ref a) (.ref s4.heap.objs.size)) (EP X pins σ Q) X.xe { s4 with heap := s4.heap.push { cls := .type "slice", data := .fields #[vl, vu, vs] } }
    rcases q with ⟨hx, hc, q⟩ | ⟨hx, hc, q⟩
    · obtain ⟨its, r, ht, hz⟩ := I5.list hx
      have hlen := r.length
      refine tail_any (ops := [.ref a, .ref s4.heap.objs.size]) ht.isList.typeIs (PySem.slot_list_getitem.lookup) ?_ (by with_unfolding_all rfl)
      refine wpAny_getItem_list_slice ht.isList (Heap.IsSliceOf.new _ vl vu vs) pl pu ps (by rcases hc with rfl | rfl <;> decide) ?_ (by rw [List.size_toArray]; omega)
      rcases hc with rfl | rfl
      · rw [pick_fwd]
        refine ⟨.ref _, _, I5.laid (t' := s4.toks) (o := .lst xs) (fun b ob q => Heap.get?_push_of_some _ q) (Nat.le_refl _) ?_, rfl, q _ (I5.hok.fresh (Nat.le_refl _))⟩
        exact ⟨hz, _, 0, r, Heap.get?_push_size _ rfl⟩
      · rw [PySem.W.krv_pick]
        refine ⟨.ref _, _, I5.laid (t' := s4.toks) (o := .lst xs.reverse) (fun b ob q => Heap.get?_push_of_some _ q) (Nat.le_refl _) ?_, rfl, q _ (I5.hok.fresh (Nat.le_refl _))⟩
        exact ⟨by rw [List.length_reverse]; exact hz, _, 0, r.reverse, Heap.get?_push_size _ rfl⟩
    · subst hc
      obtain ⟨its, r, ht, hz⟩ := I5.tuple hx
      have hlen := r.length
      refine tail_any (ops := [.ref a, .ref s4.heap.objs.size]) ht.typeIs (PyProof.Rows.slot_tuple_getitem.lookup) ?_ (by with_unfolding_all rfl)
      refine HT.getItem_tuple_back ht (Heap.IsSliceOf.new _ vl vu vs) pl pu ps ?_ (by rw [List.size_toArray]; omega)
      have z := laidT0 I5 r.reverse (by rw [List.length_reverse]; exact hz) q
      simpa [nT] using z
theorem Rvs.reverse {K : Fg} {F : Hp} {xs : List D} {vs : List V} (r : Rvs K F xs vs) : Rvs K F xs.reverse vs.reverse := by
  induction xs generalizing vs with
  | nil => cases r; exact .nil
  | cons x xs ih =>
    cases r with
    | cons a b =>
      rw [List.reverse_cons, List.reverse_cons]
      exact (ih b).append (.cons a .nil)
def stepD (x z : D) : Option D := match x, z with
  | .list xs, .int c => if c = 1 then some (.list xs) else if c = -1 then some (.list xs.reverse) else none
  | .tuple xs, .int c => if c = -1 then some (.tuple xs.reverse) else none
  | _, _ => none
@[simp] theorem step_l {xs : List D} : stepD (.list xs) (.int (-1)) = some (.list xs.reverse) := rfl
@[simp] theorem step_l1 {xs : List D} : stepD (.list xs) (.int 1) = some (.list xs) := rfl
@[simp] theorem step_t {xs : List D} : stepD (.tuple xs) (.int (-1)) = some (.tuple xs.reverse) := rfl
def sStep (m ms : SE) : SE := fun env Q => m env fun x => ms env fun z => ob (stepD x z) Q
@[simp] theorem u_sStep {m ms : SE} {env : En} {Q : D → Prop} : sStep m ms env Q = (m env fun x => ms env fun z => ob (stepD x z) Q) := rfl
theorem me_step {X : Cx} {b : Bool} {a s : Expr} {ma ms : SE} {p3 pos : Pos} (ha : ME X true a ma) (hs : ME X true s ms) : ME X b (.Subscript a (.Slice none none (some s) p3) pos) (sStep ma ms) := by
  refine ⟨⟨fun pins s σ H Q I h => (pe_step ha.run hs.run).run pins s σ H Q I ?_⟩, fun env P Q k h => ha.mono _ _ _ (fun _ h1 => hs.mono _ _ _ (fun _ h2 => ob_mono k h2) h1) h⟩
  obtain ⟨y, dr, F, env, re, hm⟩ := h
  refine ⟨y, dr, F, env, re, ha.mono _ _ _ (fun d h1 v H1 F1 r1 s1 w1 => ?_) hm⟩
  refine ⟨y, dr, F1, env, r1, hs.mono _ _ _ (fun z h2 v2 H2 F2 r2 s2 w2 => ?_) h1⟩
  have w3 := w1.mono s2
  have s13 := s1.trans s2
  unfold stepD at h2
  split at h2
  · rename_i xs c
    obtain ⟨a1, vs, rfl, e1, z1, rv⟩ := w3.list r2
    refine ⟨c, w2.int, a1, vs, rfl, .inl ⟨SqL.of e1, ?_, fun p hp => ?_⟩⟩
    · by_cases c1 : c = 1
      · exact .inl c1
      · by_cases c2 : c = -1
        · exact .inr c2
        · rw [if_neg c1, if_neg c2] at h2; exact h2.elim
    · by_cases c1 : c = 1
      · rw [if_pos c1] at h2 ⊢
        exact h2 _ _ _ (r2.laid hp) (s13.trans (r2.ex hp)) (.inl (Rv.lstNew (r2.nF hp) z1 rv))
      · rw [if_neg c1] at h2 ⊢
        by_cases c2 : c = -1
        · rw [if_pos c2] at h2
          exact h2 _ _ _ (r2.laid hp) (s13.trans (r2.ex hp)) (.inl (Rv.lstNew (r2.nF hp) (by rw [List.length_reverse]; exact z1) rv.reverse))
        · rw [if_neg c2] at h2; exact h2.elim
  · rename_i xs c
    obtain ⟨a1, vs, rfl, e1, z1, rv⟩ := w3.tuple r2
    by_cases c2 : c = -1
    · rw [if_pos c2] at h2
      refine ⟨c, w2.int, a1, vs, rfl, .inr ⟨re_tuple r2 e1, c2, fun p o to hp => ?_⟩⟩
      exact h2 _ _ _ (r2.laid hp) (s13.trans (r2.ex hp)) (.inl (Rv.tupNew (r2.nF hp) to (by rw [List.length_reverse]; exact z1) rv.reverse))
    · rw [if_neg c2] at h2; exact h2.elim
  · exact h2.elim
end Mi

namespace Mi
open PySem PySem.Spec L2 PyProof.Rows
/-! ### list(range(a, b, c)) -/
def PRg3 (X : Cx) (e : Expr) (t : L2.St → Hp → (Int → Int → Int → Hp → Prop) → Prop) : Prop :=
  ∀ (pins : List (Addr × Obj)) (s : Shared) (σ : L2.St) (H : Hp) (Q : Int → Int → Int → Hp → Prop), Inv X pins σ H s → t σ H (fun a b c H' => (c ≠ 0 ∧ c.natAbs < 1073741824) ∧ Q a b c H') →
    wpAny (model X.prog X.w) X.A (eval e X.env) (fun x s' => ∃ r a b c t u v H', x = .ref r ∧ IsRange s'.heap r a b c t u v ∧ Inv X pins σ H' s' ∧ Q a b c H') X.xe s
def tRg3 (ta : TA) : L2.St → Hp → (Int → Int → Int → Hp → Prop) → Prop := fun σ H Q => ta σ H fun vs H1 => ∃ i j k, vs = [.int i, .int j, .int k] ∧ Q i j k H1
theorem prg_3 {X : Cx} {a b c : Expr} {ta : TA} {p pos : Pos} (hg : Gl X "range") (hm : X.mg "range" = none) (ha : PA X [a, b, c] ta)
    (hs : starEach [a, b, c] X.env = (false, eval a X.env) :: starEach [b, c] X.env := by rfl) (hpl : (backTo pos (starEach [b, c] X.env)).any (·.1) = false := by rfl) : PRg3 X (.Call (.Name "range" p) [a, b, c] [] pos) (tRg3 ta) := by
  intro pins s σ H Q I h
  refine Call_ (ld_blt I hg hm boot_range (PyProof.Rows.callWith_type1 (thn (ha.run pos pins s σ H _ I h) fun us s1 ⟨vs, H1, I1, r1, q1⟩ => ?_) hs hpl))
  obtain ⟨i, j, k, e, ⟨c0, c1⟩, q⟩ := q1
  subst e
  cases r1 with
  | cons r rr =>
    cases rr with
    | cons r' rr =>
      cases rr with
      | cons r'' rr =>
        cases rr
        obtain ⟨t, rfl⟩ := r
        obtain ⟨t', rfl⟩ := r'
        obtain ⟨t'', rfl⟩ := r''
        refine call_range_3 c0 ?_ (.inl (PyProof.noPylong_small c1))
        exact ⟨_, i, j, k, _, _, _, H1, rfl, IsRange.new _ _ _ _ _ _ _, I1.kept fun b u e => Heap.get?_push_of_some _ e, q⟩
def rgV3 (a c : Int) (n : Nat) : List V := (List.range n).map fun i => V.int (a + (i : Nat) * c)
theorem vals_rg3 {a c : Int} {n : Nat} {acc : Array Value} (h : ItemsOf (fun i v => ∃ t, v = .int (a + i * c) t) acc n) : Vals (rgV3 a c n) acc.toList := by
  have e : acc.toList.length = n := by rw [Array.length_toList]; exact h.1
  unfold rgV3
  rw [← e]
  refine vals_of_get acc.toList _ fun j u hj => ?_
  obtain ⟨t, rfl⟩ := h.2 j u (by rw [← hj, Array.getElem?_toList])
  exact ⟨t, rfl⟩
def tLstRg3 (te : L2.St → Hp → (Int → Int → Int → Hp → Prop) → Prop) : TE := fun σ H Q => te σ H fun a b c H1 => (c ≠ 0 ∧ c.natAbs < 1073741824) ∧ ∃ n, RgC a b c n ∧ n ≤ 16777216 ∧ ∀ q, H1 q = none → Q (.ref q) (upd H1 q (.lst (rgV3 a c n)))
theorem pe_listRg3 {X : Cx} {e : Expr} {te : L2.St → Hp → (Int → Int → Int → Hp → Prop) → Prop} {p pos : Pos} (hc : X.calm = true) (hg : Gl X "list") (hm : X.mg "list" = none) (he : PRg3 X e te) (na : starEach [e] X.env = (false, eval e X.env) :: starEach [] X.env := by rfl) : PE X (.Call (.Name "list" p) [e] [] pos) (tLstRg3 te) := by
  refine ⟨fun pins s σ H Q I h => ?_⟩
  refine Call_ (ld_blt I hg hm boot_list (PyProof.Rows.callWith_type1 (args_cons (thn (he pins s σ H _ I h) fun x s1 ⟨r, a, b, c, t, u, v, H1, ex, hr, I1, n, ok, hn, q⟩ => args_nil ?_) na) na))
  subst ex
  obtain ⟨b1, b2, b3, b4⟩ := ok
  refine call_list_range (n := n) (I1.ok.hd hc) hr b3 b4 hn fun h' tk acc c' hk e' hi => ?_
  refine ⟨.ref s1.heap.objs.size, upd H1 s1.heap.objs.size (.lst (rgV3 a c n)), I1.laid hk (Nat.le_refl _) (show ObjOk X.prog X.w _ _ _ (.lst (rgV3 a c n)) from ⟨?_, acc.toList, c', vals_rg3 hi, ?_⟩), rfl, q _ (I1.hok.fresh (Nat.le_refl _))⟩
  · unfold rgV3; rw [List.length_map, List.length_range, sizeLine_eq]; exact hn
  · rw [Array.toArray_toList]; exact e'
theorem rgV3_eq (a b c : Int) : rgV3 a c (rngN a b c) = (rngC a b c).map V.int := by unfold rgV3 rngC; rw [List.map_map]; rfl
section
variable {X : Cx} {b : Bool} {a c e : Expr} {ma mc me : SE} {pos : Pos}
theorem iR3_mono (ha : ME X true a ma) (hc : ME X true c mc) (he : ME X true e me) (env : En) (P Q : List D → Prop) (k : ∀ d, P d → Q d) (h : iR3 ma mc me env P) : iR3 ma mc me env Q :=
  ha.mono _ _ _ (fun d hd => hc.mono _ _ _ (fun d' hd' => he.mono _ _ _ (fun d'' hd'' => by cases d <;> cases d' <;> cases d'' <;> first | exact ⟨hd''.1, k _ hd''.2⟩ | exact hd'') hd') hd) h
theorem mf_lR3 {p p2 pos2 : Pos} (hcm : X.calm = true) (hg : Gl X "list") (hm : X.mg "list" = none) (hg2 : Gl X "range") (hm2 : X.mg "range" = none) (ha : ME X true a ma) (hc : ME X true c mc) (he : ME X true e me)
    (na : starEach [a, c, e] X.env = (false, eval a X.env) :: starEach [c, e] X.env := by rfl) (nb : starEach [c, e] X.env = (false, eval c X.env) :: starEach [e] X.env := by rfl) (nc : starEach [e] X.env = (false, eval e X.env) :: starEach [] X.env := by rfl)
    (hp : (backTo pos2 (starEach [c, e] X.env)).any (·.1) = false := by rfl)
    (na2 : starEach [.Call (.Name "range" p2) [a, c, e] [] pos2] X.env = (false, eval (.Call (.Name "range" p2) [a, c, e] [] pos2) X.env) :: starEach [] X.env := by rfl) : MF X (.Call (.Name "list" p) [.Call (.Name "range" p2) [a, c, e] [] pos2] [] pos) (iR3 ma mc me) := by
  refine ⟨⟨fun pins s σ H Q I h => (pe_listRg3 hcm hg hm (prg_3 hg2 hm2 (pa_cons ha.run (pa_cons hc.run (pa_cons he.run pa_nil nc) nb) na) na hp) na2).run pins s σ H Q I ?_⟩, fun env P Q k h => iR3_mono ha hc he env P Q k h⟩
  obtain ⟨y, dr, F, env, re, hm⟩ := h
  refine ⟨y, dr, F, env, re, ha.mono _ _ _ (fun d hd v H' F' r1 s1 w => ?_) hm⟩
  refine ⟨y, dr, F', env, r1, hc.mono _ _ _ (fun d' hd' v' H2 F2 r2 s2 w' => ?_) hd⟩
  refine ⟨y, dr, F2, env, r2, he.mono _ _ _ (fun d'' hd'' v'' H3 F3 r3 s3 w'' => ?_) hd'⟩
  split at hd''
  · rename_i lo hi k
    obtain ⟨⟨h1, h2, h3, h4, h5, h6, h7, h8⟩, hq⟩ := hd''
    refine ⟨lo, hi, k, by rw [w.int, w'.int, w''.int], ⟨h5, by omega⟩, rngN lo hi k, rgC_ok h1 h2 h3 h4 h5 h6 h7 h8, h8, fun q hqq => ?_⟩
    rw [rgV3_eq]
    exact new_lst r3 ((s1.trans s2).trans s3) hqq (Rvs.ofInts _) (by rw [sizeLine_eq]; have := rngC_len lo hi k; unfold dInts at this; omega) hq
  · exact hd''.elim
end
@[simp] theorem iR3_eq {m m' m'' : SE} {env : En} {P : List D → Prop} : iR3 m m' m'' env P = (m env fun d => m' env fun d' => m'' env fun d'' => match d, d', d'' with
  | .int lo, .int hi, .int c => (-1000000000000 ≤ lo ∧ lo ≤ 1000000000000 ∧ -1000000000000 ≤ hi ∧ hi ≤ 1000000000000 ∧ c ≠ 0 ∧ -1000000000 ≤ c ∧ c ≤ 1000000000 ∧ rngN lo hi c ≤ 16777216) ∧ P (dInts (rngC lo hi c))
  | _, _, _ => False) := rfl
/-- a range by steps is what of the range by ones is left by the rest -/
theorem rngC_eq {lo hi c : Int} (hc : 0 < c) : rngC lo hi c = (rng lo hi).filter fun x => (x - lo) % c == 0 := by
  have hs : ∀ (xs ys : List Int), xs.Pairwise (· < ·) → ys.Pairwise (· < ·) → (∀ a, a ∈ xs ↔ a ∈ ys) → xs = ys := fun _ _ => lt_uniq
  refine hs _ _ ?_ ?_ fun a => ?_
  · unfold rngC
    rw [List.pairwise_map]
    refine List.pairwise_lt_range.imp fun {i j} h => ?_
    have := Int.mul_lt_mul_of_pos_right (show (i : Int) < (j : Int) by omega) hc
    omega
  · refine List.Pairwise.filter _ ?_
    unfold rng
    rw [List.pairwise_map]
    exact List.pairwise_lt_range.imp fun h => by omega
  · rw [List.mem_filter, rng_mem]
    unfold rngC rngN
    rw [if_pos hc, List.mem_map]
    constructor
    · rintro ⟨i, hi2, rfl⟩
      rw [List.mem_range] at hi2
      split at hi2
      · have h1 : (i : Int) ≤ (hi - lo - 1) / c := by
          have : 0 ≤ (hi - lo - 1) / c := Int.ediv_nonneg (by omega) (by omega)
          omega
        have h2 := (Int.le_ediv_iff_mul_le hc).mp h1
        have h3 := Int.mul_nonneg (show 0 ≤ (i : Int) by omega) (show 0 ≤ c by omega)
        refine ⟨by omega, ?_⟩
        have : lo + (i : Int) * c - lo = i * c := by omega
        rw [this, Int.mul_emod_left]; rfl
      · exact absurd hi2 (by omega)
    · rintro ⟨⟨h1, h2⟩, h3⟩
      have h3 : (a - lo) % c = 0 := by simpa using h3
      have h4 := Int.mul_ediv_add_emod (a - lo) c
      have h5 : 0 ≤ (a - lo) / c := Int.ediv_nonneg (by omega) (by omega)
      have h6 : (a - lo) / c * c = c * ((a - lo) / c) := Int.mul_comm _ _
      refine ⟨((a - lo) / c).toNat, ?_, by rw [show ((((a - lo) / c).toNat : Nat) : Int) = (a - lo) / c by omega]; omega⟩
      rw [List.mem_range, if_pos (by omega)]
      have : (a - lo) / c ≤ (hi - lo - 1) / c := Int.ediv_le_ediv hc (by omega)
      omega
end Mi

namespace Mi
open PySem PySem.Spec L2
/-! ### reading xs.extend(ys); ints in tuples -/
def extK (xs : List D) (d : D) (P : List D → Prop) : Prop := match d with
  | .list ys => xs.length + ys.length ≤ 16777216 ∧ P (xs ++ ys)
  | _ => False
@[simp] theorem extK_l {xs ys : List D} {P : List D → Prop} : extK xs (.list ys) P = (xs.length + ys.length ≤ 16777216 ∧ P (xs ++ ys)) := rfl
@[simp] theorem u_sExt {i : Nat} {m : SE} {K : Ks} {env : En} : sExt i m K env = (ownL env i fun xs => m env fun d => extK xs d fun ys => K.nx (env.set i (.l ys))) := rfl
theorem in_tI {a : Int} {xs : List Int} : inD (.int a) (.tuple (dInts xs)) = some (.bool (decide (a ∈ xs))) := cod_int.inDT (n := 1) rfl fun _ _ => rfl
theorem nin_tI {a : Int} {xs : List Int} : ninD (.int a) (.tuple (dInts xs)) = some (.bool (!decide (a ∈ xs))) := cod_int.ninDT (n := 1) rfl fun _ _ => rfl
theorem nin_lI {a : Int} {xs : List Int} : ninD (.int a) (.list (dInts xs)) = some (.bool (!decide (a ∈ xs))) := cod_int.ninDL (n := 1) rfl fun _ _ => rfl
theorem len_split {α : Type} (p : α → Bool) : ∀ ys : List α, ys.length = (ys.filter p).length + (ys.filter fun y => !p y).length
  | [] => rfl
  | y :: ys => by
    have := len_split p ys
    by_cases c : p y = true
    · rw [List.filter_cons_of_pos c, List.filter_cons_of_neg (by simp [c])]; simp; omega
    · rw [List.filter_cons_of_neg c, List.filter_cons_of_pos (by simpa using c)]; simp; omega
theorem rng_so (a b : Int) : (rng a b).Pairwise (· < ·) := by
  unfold rng
  rw [List.pairwise_map]
  exact List.pairwise_lt_range.imp fun h => by omega
theorem rng_app {a b c : Int} (h1 : a ≤ b) (h2 : b ≤ c) : rng a c = rng a b ++ rng b c := by
  refine lt_uniq (rng_so _ _) ?_ fun x => ?_
  · rw [List.pairwise_append]
    exact ⟨rng_so _ _, rng_so _ _, fun x hx y hy => by have := rng_mem.mp hx; have := rng_mem.mp hy; omega⟩
  · rw [List.mem_append, rng_mem, rng_mem, rng_mem]; omega
theorem lt_len : ∀ {xs : List Int} {lo hi : Int}, xs.Pairwise (· < ·) → (∀ x ∈ xs, lo ≤ x ∧ x ≤ hi) → lo ≤ hi + 1 → (xs.length : Int) ≤ hi - lo + 1
  | [], _, _, _, _, h => by simp; omega
  | a :: xs, lo, hi, hs, hb, _ => by
    rw [List.pairwise_cons] at hs
    have h1 := hb a (by simp)
    have := lt_len (xs := xs) (lo := a + 1) (hi := hi) hs.2 (fun x hx => by have := hs.1 x hx; have := hb x (by simp [hx]); omega) (by omega)
    simp; omega
theorem up_dem {sm : Sm} {args : List Sl} {Q : D → Prop} (h : sm args Q) : up sm args Q := ⟨Q, h, fun _ h => h⟩
/-! ### (a, b) against (a, b), written constants of tuples -/
end Mi

namespace Mi
open PySem PySem.Spec L2
/-! ### written constants: tuples of tuples of ints -/
theorem rv_wI {K : Fg} {b : Addr} {ns : List Int} {its : Array Value} {n : Nat} {sl : Array (Option Value)} (l : K.K.lookup b = some ⟨.type "tuple", none, .seq its n, sl⟩) (v : Vals (ns.map V.int) its.toList) (hl : ns.length ≤ 1000) (F : Hp) : Rv K F (.tuple (dInts ns)) (.ref b) := by
  have hv := v.length
  rw [List.length_map] at hv
  have hz : its.size ≤ sizeLine := by
    rw [sizeLine_eq, ← Array.length_toList, ← hv]
    omega
  exact .tup (.inr ⟨_, its, n, l, ⟨rfl, rfl⟩, rfl, hz, v⟩) (by rw [dInts_len, sizeLine_eq]; omega) (Rvs.ofInts ns)
theorem con_tupV {K : Fg} {mg : Str → Option Value} {h : Heap} {x : Str} {a : Addr} {ds : List D} {vs : List V} {its : Array Value} {n : Nat} {sl : Array (Option Value)} (X : K.K.In h) (G : h.Ns mainGlobals mg)
    (e : PySem.W.nsIn K mainGlobals x = some (some (.ref a))) (l : K.K.lookup a = some ⟨.type "tuple", none, .seq its n, sl⟩) (v : Vals vs its.toList) (hl : ds.length ≤ 1000) (rv : ∀ F, Rvs K F ds vs) : Con K mg x (.tuple ds) := by
  have hv := v.length
  have hl2 := (rv fun _ => none).length
  have hz : its.size ≤ sizeLine := by
    rw [sizeLine_eq, ← Array.length_toList, ← hv]
    omega
  exact ⟨.ref a, .ref a, PySem.W.mg_of X G e, rfl, fun F => .tup (.inr ⟨_, its, n, l, ⟨rfl, rfl⟩, rfl, hz, v⟩) (by rw [sizeLine_eq]; omega) (rv F)⟩
end Mi

namespace L2
open PySem PySem.Spec PyProof.Rows
section
variable {X : Cx}
/-- sorted(d) of a dict whose keys are ints, however many -/
theorem call_sortedDIA (hcalm : X.calm = true) : CallR X (.builtin "sorted") (fun xs H Q => ∃ (a : Addr) (kvs : List (Key × V)) (ks : List Int), xs = [.ref a] ∧ Rd H a (.dK kvs) ∧ kvs.map (·.1) = ks.map Sum.inl ∧
    ∀ (ys : List Int) (p : Addr), ys.Perm ks → ys.Pairwise (· ≤ ·) → H p = none → Q (.ref p) (upd H p (.lst (ys.map V.int)))) := by
  intro pins s σ H xs us Q I r q
  obtain ⟨a, kvs, ks, ex, hd, hks, q⟩ := q
  subst ex
  obtain ⟨u, eu, rx⟩ := vals1 r
  subst eu
  cases rx
  obtain ⟨z, lo, vs, rel, dd⟩ := dk_rd I.hok hd
  obtain ⟨ep, hat⟩ := dd.dictAt
  have hkeys : vs.map (·.1) = ks.map Sum.inl := rel.keys.symm.trans hks
  have hl : vs.length = ks.length := by
    have e := congrArg List.length hkeys
    rw [List.length_map, List.length_map] at e
    exact e
  have h16 : vs.length ≤ sizeLine := by rw [← rel.length]; exact z
  refine Calls.call_function_entry PyProof.Rows.kind_sorted PyProof.Rows.plain_sorted PyProof.Rows.entry_sorted (PyProof.Rows.args_sorted1 _) ?_
  unfold Builtin.«sorted»
  refine wpAny_bind (m := checkCount "sorted" 1 1 _) (wpAny_pure ?_)
  refine wpAny_bind (PySem.W.kdu_collect (A := X.A.in1) (PySem.W.kdl_dict (knd := mixKind X.prog X.w) (kvs := vs) (ep := ep) lo) (I.ok.hd hcalm) hat h16 fun h' tk acc hk hacc => ?_)
  have hal : acc.toList.length = ks.length := by rw [Array.length_toList, hacc.1, hl]
  have hS : IntsAre acc.toList ks := ints_each hal fun j v e => by
    obtain ⟨k, x, e1, e2⟩ := hacc.2 j v (by rw [← Array.getElem?_toList]; exact e)
    have e3 : (vs.map (·.1))[j]? = some k := by rw [List.getElem?_map, e1]; rfl
    rw [hkeys, List.getElem?_map] at e3
    cases e4 : ks[j]? with
    | none => rw [e4] at e3; cases e3
    | some y =>
      rw [e4] at e3
      have e5 : Sum.inl y = k := Option.some.inj e3
      subst e5
      rcases keyIs_shape (show keyIs (Sum.inl y) v = true from e2) with ⟨i, t, ek, ev⟩ | ⟨z, t, ek, ev⟩
      · cases ek
        exact ⟨y, t, rfl, ev⟩
      · cases ek
  have I1 : Inv X pins σ H { s with heap := h', toks := tk } := I.kept hk
  have hzl : acc.toList.length ≤ sizeLine := by rw [hal, ← hl]; exact h16
  refine wpAny_bind (wpAny_newList ?_ (by exact hzl))
  have hoL : (h'.push (seqObj "list" acc.toList.toArray 0)).get? h'.objs.size = some (seqObj "list" acc.toList.toArray 0) := Heap.get?_push_size _ rfl
  show wpAny _ _ _ _ _ { s with heap := h'.push (seqObj "list" acc.toList.toArray 0), toks := tk }
  refine wpAny_bind (wpAny_holding (wpAny_call_entry PyProof.Rows.slot_list_sort ⟨_, hoL, rfl⟩ PyProof.Rows.entry_list_sort
    (PyProof.Rows.list_sort_treeAny (s := { s with heap := h'.push (seqObj "list" acc.toList.toArray 0), toks := tk }) hoL hS hzl fun out ys g1 g2 g3 => ⟨_, rfl, ?_⟩) (PyProof.Rows.args_list_sort _)))
  obtain ⟨e', he'⟩ := PyProof.Rows.sortedHeap_at (vs := acc.toList) (out := out) hoL
  have hlen : (ys.map V.int).length ≤ sizeLine := by
    rw [List.length_map, g2.length_eq, ← hl]
    exact h16
  refine wpAny_pure ⟨_, rfl, .ref h'.objs.size, upd H h'.objs.size (.lst (ys.map V.int)), I1.laid (t' := tk) (fun b u e => ?_) (Nat.le_refl _)
    (show ObjOk X.prog X.w _ _ _ (.lst (ys.map V.int)) from ⟨hlen, out.toList, e', vals_of_ints g1, by rw [Array.toArray_toList]; exact he'⟩), rfl, q ys _ g2 g3 (I1.hok.fresh (Nat.le_refl _))⟩
  have hb : b < h'.objs.size := Heap.lt_size e
  rw [PyProof.Rows.sortedHeap_old (Nat.ne_of_lt hb) (by rw [size_push']; exact Nat.lt_succ_of_lt hb)]
  exact Heap.get?_push_of_some _ e
/-- sorted(d) of a dict whose keys are texts, however many -/
theorem call_sortedDSA (hcalm : X.calm = true) : CallR X (.builtin "sorted") (fun xs H Q => ∃ (a : Addr) (kvs : List (Key × V)) (ks : List Str), xs = [.ref a] ∧ Rd H a (.dK kvs) ∧ kvs.map (·.1) = ks.map Sum.inr ∧
    ∀ ys p, ys.Perm ks → sortedS ys = true → H p = none → Q (.ref p) (upd H p (.lst (ys.map V.str)))) := by
  intro pins s σ H xs us Q I r q
  obtain ⟨a, kvs, ks, ex, hd, hks, q⟩ := q
  subst ex
  obtain ⟨u, eu, rx⟩ := vals1 r
  subst eu
  cases rx
  obtain ⟨z, lo, vs, rel, dd⟩ := dk_rd I.hok hd
  obtain ⟨ep, hat⟩ := dd.dictAt
  have hkeys : vs.map (·.1) = ks.map Sum.inr := rel.keys.symm.trans hks
  have hl : vs.length = ks.length := by
    have e := congrArg List.length hkeys
    rw [List.length_map, List.length_map] at e
    exact e
  have h16 : vs.length ≤ sizeLine := by rw [← rel.length]; exact z
  refine Calls.call_function_entry PyProof.Rows.kind_sorted PyProof.Rows.plain_sorted PyProof.Rows.entry_sorted (PyProof.Rows.args_sorted1 _) ?_
  unfold Builtin.«sorted»
  refine wpAny_bind (m := checkCount "sorted" 1 1 _) (wpAny_pure ?_)
  refine wpAny_bind (PySem.W.kdu_collect (A := X.A.in1) (PySem.W.kdl_dict (knd := mixKind X.prog X.w) (kvs := vs) (ep := ep) lo) (I.ok.hd hcalm) hat h16 fun h' tk acc hk hacc => ?_)
  have hal : acc.toList.length = ks.length := by rw [Array.length_toList, hacc.1, hl]
  have hS : StrsAre acc.toList ks := strs_at hal fun j v e => by
    obtain ⟨k, x, e1, e2⟩ := hacc.2 j v (by rw [← Array.getElem?_toList]; exact e)
    have e3 : (vs.map (·.1))[j]? = some k := by rw [List.getElem?_map, e1]; all_goals rfl
    rw [hkeys, List.getElem?_map] at e3
    cases e4 : ks[j]? with
    | none => rw [e4] at e3; cases e3
    | some y =>
      rw [e4] at e3
      have e5 : Sum.inr y = k := Option.some.inj e3
      subst e5
      obtain ⟨t, ev⟩ := Value.isStrOf_shape (x := y) (v := v) e2
      exact ⟨y, t, rfl, ev⟩
  have I1 : Inv X pins σ H { s with heap := h', toks := tk } := I.kept hk
  have hzl : acc.toList.length ≤ sizeLine := by rw [hal, ← hl]; exact h16
  refine wpAny_bind (wpAny_newList ?_ (by exact hzl))
  have hoL : (h'.push (seqObj "list" acc.toList.toArray 0)).get? h'.objs.size = some (seqObj "list" acc.toList.toArray 0) := Heap.get?_push_size _ rfl
  show wpAny _ _ _ _ _ { s with heap := h'.push (seqObj "list" acc.toList.toArray 0), toks := tk }
  refine wpAny_bind (wpAny_holding (wpAny_call_entry PyProof.Rows.slot_list_sort ⟨_, hoL, rfl⟩ PyProof.Rows.entry_list_sort
    (PyProof.Rows.list_sort_treeKAny strKind_oneLt (s := { s with heap := h'.push (seqObj "list" acc.toList.toArray 0), toks := tk }) hoL hS.keysOf (fun v₁ v₂ rest e => keyKind_strs (by rw [← e]; exact hS)) hzl fun st' hp hs => ⟨_, rfl, ?_⟩)
    (PyProof.Rows.args_list_sort _)))
  obtain ⟨ys, g1, g2, g3⟩ := sorted_out_str hS hp hs
  obtain ⟨e', he'⟩ := PyProof.Rows.sortedHeap_at (vs := acc.toList) (out := (arrOf st').map (·.2)) hoL
  have hlen : (ys.map V.str).length ≤ sizeLine := by
    rw [List.length_map, g2.length_eq, ← hl]
    exact h16
  refine wpAny_pure ⟨_, rfl, .ref h'.objs.size, upd H h'.objs.size (.lst (ys.map V.str)), I1.laid (t' := tk) (fun b u e => ?_) (Nat.le_refl _)
    (show ObjOk X.prog X.w _ _ _ (.lst (ys.map V.str)) from ⟨hlen, ((arrOf st').map (·.2)).toList, e', vals_of_strs g1, by rw [Array.toArray_toList]; exact he'⟩), rfl, q ys _ g2 g3 (I1.hok.fresh (Nat.le_refl _))⟩
  have hb : b < h'.objs.size := Heap.lt_size e
  rw [PyProof.Rows.sortedHeap_old (Nat.ne_of_lt hb) (by rw [size_push']; exact Nat.lt_succ_of_lt hb)]
  exact Heap.get?_push_of_some _ e
end
end L2
namespace Mi
open PySem PySem.Spec L2
/-! ### sorted(d): ints or texts -/
def keysS : List (Key × D) → Option (List Str)
  | [] => some []
  | (.inr x, _) :: r => (keysS r).map (x :: ·)
  | _ => none
theorem keysS_eq : ∀ {kvs : List (Key × D)} {ks : List Str}, keysS kvs = some ks → kvs.map (·.1) = ks.map Sum.inr
  | [], ks, h => by cases h; rfl
  | (.inr x, d) :: r, ks, h => by
    have h : (keysS r).map (x :: ·) = some ks := h
    cases q : keysS r with
    | none => rw [q] at h; cases h
    | some l =>
      rw [q] at h; cases h
      rw [List.map_cons, keysS_eq q]; rfl
  | (.inl _, _) :: _, _, h => by cases h
theorem keysS_map {α : Type} (k : α → Str) (f : α → D) : ∀ xs : List α, keysS (xs.map fun a => (.inr (k a), f a)) = some (xs.map k)
  | [] => rfl
  | x :: xs => by
    show (keysS (xs.map _)).map (k x :: ·) = _
    rw [keysS_map k f xs]; rfl
def leS (a b : Str) : Bool := !decide (b.cps.toList < a.cps.toList)
def ssort (ks : List Str) : List Str := ks.mergeSort leS
theorem cps_inj {a b : Str} (h : a.cps.toList = b.cps.toList) : a = b := by
  obtain ⟨x⟩ := a
  obtain ⟨y⟩ := b
  congr 1
  exact Array.toList_inj.mp h
theorem leS_trans {a b c : Str} (h1 : leS a b = true) (h2 : leS b c = true) : leS a c = true := by
  unfold leS at *
  simp at *
  exact List.le_trans h1 h2
theorem leS_total (a b : Str) : (leS a b || leS b a) = true := by
  unfold leS
  simp
  exact List.le_total _ _
theorem leS_anti {a b : Str} (h1 : leS a b = true) (h2 : leS b a = true) : a = b := by
  unfold leS at *
  simp at *
  exact cps_inj (List.le_antisymm h1 h2)
theorem ssort_perm (ks : List Str) : (ssort ks).Perm ks := List.mergeSort_perm _ _
theorem ssort_so (ks : List Str) : (ssort ks).Pairwise fun a b => leS a b = true := List.pairwise_mergeSort (le := leS) (fun a b c => leS_trans) leS_total ks
theorem ssort_uniq {ys ks : List Str} (hp : ys.Perm ks) (hs : ys.Pairwise fun a b => leS a b = true) : ys = ssort ks :=
  List.Perm.eq_of_pairwise (fun a b _ _ h1 h2 => leS_anti h1 h2) hs (ssort_so ks) (hp.trans (ssort_perm ks).symm)
theorem rising_so : ∀ (r : List Str) (p : Str), PyProof.Rows.risingS p r = true → (p :: r).Pairwise fun a b => leS a b = true
  | [], p, _ => List.pairwise_singleton _ _
  | x :: r, p, h => by
    have h : (!ltCps x.cps.toList p.cps.toList && PyProof.Rows.risingS x r) = true := h
    rw [Bool.and_eq_true] at h
    have h1 : leS p x = true := by
      unfold leS
      rw [PyProof.Rows.le_meets]; exact h.1
    have ih := rising_so r x h.2
    rw [List.pairwise_cons]
    refine ⟨fun y hy => ?_, ih⟩
    rcases List.mem_cons.mp hy with rfl | hy
    · exact h1
    · exact leS_trans h1 ((List.pairwise_cons.mp ih).1 y hy)
theorem sorted_so {ys : List Str} (h : PyProof.Rows.sortedS ys = true) : ys.Pairwise fun a b => leS a b = true := by
  cases ys with
  | nil => exact .nil
  | cons x r => exact rising_so r x h
def dStrs (xs : List Str) : List D := xs.map PyData.str
def srtKeysK (kvs : List (Key × D)) (Q : List D → Prop) : Prop := (∃ ks, keysI kvs = some ks ∧ Q (dInts (isort ks))) ∨ (∃ ks, keysS kvs = some ks ∧ (∀ k ∈ ks, k.length ≤ sizeLine) ∧ Q (dStrs (ssort ks)))
def sSrtKeysA (m : SE) : SL := fun env Q => m env fun x => obK (asK x) fun kvs => kvs.length ≤ 16777216 ∧ srtKeysK kvs Q
@[simp] theorem u_sSrtKeysA {m : SE} {env : En} {Q : List D → Prop} : sSrtKeysA m env Q = (m env fun x => obK (asK x) fun kvs => kvs.length ≤ 16777216 ∧ srtKeysK kvs Q) := rfl
theorem srtKeys_i {kvs : List (Key × D)} {ks : List Int} {Q : List D → Prop} (h : keysI kvs = some ks) (q : Q (dInts (isort ks))) : srtKeysK kvs Q := .inl ⟨ks, h, q⟩
theorem srtKeys_s {kvs : List (Key × D)} {ks : List Str} {Q : List D → Prop} (h : keysS kvs = some ks) (hz : ∀ k ∈ ks, k.length ≤ 16777216) (q : Q (dStrs (ssort ks))) : srtKeysK kvs Q := .inr ⟨ks, h, fun k hk => by rw [sizeLine_eq]; exact hz k hk, q⟩
theorem rvs_strs {K : Fg} {F : Hp} : ∀ {ss : List Str}, (∀ s ∈ ss, s.length ≤ sizeLine) → Rvs K F (dStrs ss) (ss.map V.str)
  | [], _ => .nil
  | s :: ss, h => .cons (.str s (h s (by simp))) (rvs_strs fun x hx => h x (by simp [hx]))
section
variable {X : Cx} {b : Bool} {a : Expr} {ma : SE} {pos : Pos}
theorem mf_srtKeysA {p : Pos} (hc : X.calm = true) (hg : Gl X "sorted") (hm : X.mg "sorted" = none) (ha : ME X true a ma) (he : starEach [a] X.env = (false, eval a X.env) :: starEach [] X.env := by rfl) (hpl : (backTo pos (starEach [] X.env)).any (·.1) = false := by rfl) :
    MF X (.Call (.Name "sorted" p) [a] [] pos) (sSrtKeysA ma) := by
  refine ⟨⟨fun pins s σ H Q I hq => (pe_callB ((call_sortedDIA hc).or (call_sortedDSA hc)) hg hm (by decide +kernel) (pa_cons ha.run pa_nil he) (by decide) (by decide) he hpl).run pins s σ H Q I ?_⟩, fun env P Q k hp => ha.mono _ _ _ (fun d h1 => obK_mono (fun kvs h => ⟨h.1, ?_⟩) h1) hp⟩
  · obtain ⟨y, dr, F, env, re, hm⟩ := hq
    refine ⟨y, dr, F, env, re, ha.mono _ _ _ (fun d1 h1 v1 H1 F1 r1 s1 w1 => ?_) hm⟩
    cases q : asK d1 with
    | none => rw [q] at h1; exact h1.elim
    | some kvs =>
      rw [q] at h1
      obtain ⟨hl, h1⟩ := (show kvs.length ≤ 16777216 ∧ srtKeysK kvs _ from h1)
      obtain ⟨p', kws, rfl, e1, e2⟩ := w1.asK r1 q
      rcases h1 with ⟨ks, q2, h1⟩ | ⟨ks, q2, hz0, h1⟩
      · refine .inl ⟨p', kws, ks, rfl, e1, (rks_keys e2).trans (keysI_eq q2), fun ys p2 o1 o2 hp2 => ?_⟩
        have e : ys = isort ks := List.Perm.eq_of_pairwise (fun a b _ _ h1 h2 => Int.le_antisymm h1 h2) o2 (isort_sorted ks) (o1.trans (isort_perm ks).symm)
        subst e
        have hz : (dInts (isort ks)).length ≤ sizeLine := by rw [dInts_len, isort_len, sizeLine_eq, ← keysI_len q2]; exact hl
        exact new_lst r1 s1 hp2 (Rvs.ofInts _) hz h1
      · refine .inr ⟨p', kws, ks, rfl, e1, (rks_keys e2).trans (keysS_eq q2), fun ys p2 o1 o2 hp2 => ?_⟩
        have e : ys = ssort ks := ssort_uniq o1 (sorted_so o2)
        subst e
        have hkl : ks.length = kvs.length := by
          have := congrArg List.length (keysS_eq q2)
          rw [List.length_map, List.length_map] at this
          exact this.symm
        have hz : (dStrs (ssort ks)).length ≤ sizeLine := by
          unfold dStrs
          rw [List.length_map, (ssort_perm ks).length_eq, sizeLine_eq, hkl]; exact hl
        exact new_lst r1 s1 hp2 (rvs_strs fun s hs => hz0 s ((ssort_perm ks).mem_iff.mp hs)) hz h1
  · rcases h.2 with ⟨ks, q2, h1⟩ | ⟨ks, q2, hz0, h1⟩
    · exact .inl ⟨ks, q2, k _ h1⟩
    · exact .inr ⟨ks, q2, hz0, k _ h1⟩
end
/-! ### pairs of ints in order -/
theorem lt_2 (a b a' b' : Int) : PySem.W.dataLt (.tuple [.int a, .int b]) (.tuple [.int a', .int b']) = decide (a < a' ∨ (a = a' ∧ b < b')) := by
  have al : ∀ x y : Int, PySem.W.alike (.int x) (.int y) = true := fun x y => by simp [PySem.W.alike]
  have ev : ∀ x y : Int, PyData.eqv (.int x) (.int y) = decide (x = y) := fun x y => by
    show (x == y) = _
    by_cases c : x = y <;> simp [c]
  rw [PySem.W.dataLt_tuple, PySem.W.dataLt_cons (al a a'), PySem.W.dataLt_cons (al b b'), ev, ev, PySem.W.dataLt_int, PySem.W.dataLt_int]
  have e : PyProof.Rows.lexLt PyProof.Rows.itemOrd (PySem.W.keyToksAll []) (PySem.W.keyToksAll []) = false := PyProof.Rows.lex_irrefl _
  rw [e]
  by_cases h1 : a = a'
  · subst h1
    by_cases h2 : b = b'
    · subst h2; simp
    · simp [h2]
  · simp [h1]
theorem side_2 (a b a' b' : Int) : W.alike (.tuple [.int a, .int b]) (.tuple [.int a', .int b']) = true ∧ SeqAt.shaped (.tuple [.int a, .int b]) = true ∧ SeqAt.shaped (.tuple [.int a', .int b']) = true :=
  ⟨by simp [PySem.W.alike, PySem.W.alikeAll], flat_shaped (n := 2) rfl, flat_shaped (n := 2) rfl⟩
theorem le_t2 {a b a' b' : Int} : leD (.tuple [.int a, .int b]) (.tuple [.int a', .int b']) = some (.bool (decide (a < a' ∨ (a = a' ∧ b ≤ b')))) := by
  have h : leD (.tuple [.int a, .int b]) (.tuple [.int a', .int b']) = some (.bool (!PySem.W.dataLt (.tuple [.int a', .int b']) (.tuple [.int a, .int b]))) := by unfold leD; exact if_pos (side_2 a b a' b')
  rw [h, lt_2]
  congr 2
  rw [← decide_not]
  congr 1
  apply propext
  omega
theorem ge_t2 {a b a' b' : Int} : geD (.tuple [.int a, .int b]) (.tuple [.int a', .int b']) = some (.bool (decide (a' < a ∨ (a' = a ∧ b' ≤ b)))) := by
  have h : geD (.tuple [.int a, .int b]) (.tuple [.int a', .int b']) = some (.bool (!PySem.W.dataLt (.tuple [.int a, .int b]) (.tuple [.int a', .int b']))) := by unfold geD; exact if_pos (side_2 a b a' b')
  rw [h, lt_2]
  congr 2
  rw [← decide_not]
  congr 1
  apply propext
  omega
theorem lt_t2 {a b a' b' : Int} : ltD (.tuple [.int a, .int b]) (.tuple [.int a', .int b']) = some (.bool (decide (a < a' ∨ (a = a' ∧ b < b')))) := by
  have h : ltD (.tuple [.int a, .int b]) (.tuple [.int a', .int b']) = some (.bool (PySem.W.dataLt (.tuple [.int a, .int b]) (.tuple [.int a', .int b']))) := by unfold ltD; exact if_pos (side_2 a b a' b')
  rw [h, lt_2]
end Mi

namespace PySem.W
open PySem PySem.Calls PyProof.Rows
section
variable {prog : Program} {w : World} {A : Around} {E : Value → Shared → Prop} {s : Shared}
theorem call_min_twoH {a b : Value} {Q : Value → Shared → Prop}
    (h : wpAny (model prog w) A.in1 (pyIter (.ref s.heap.objs.size)) (fun it s₂ => ∃ I fp wr G n P St H bt, it = .ref I ∧ WalksS prog w A.in1 I fp wr G n P St ∧ St 0 s₂ ∧ (∀ b ∈ fp, b < s₂.heap.objs.size) ∧ 0 < n ∧
      (∀ b o, H.get? b = some o → b ∉ wr) ∧ (∀ b o, H.get? b = some o → s₂.heap.get? b = some o) ∧ CmpIn prog w A.in1 .Lt H P bt ∧ ∀ v s', P (argBest bt (n - 1)) v → Moved wr G s₂ s' → Q v s') E
      { s with heap := s.heap.push { cls := .type "tuple", data := .seq #[a, b] } }) :
    wpAny (model prog w) A (call (.builtin "min") [a, b]) Q E s := by
  have hname : (toString "min" ++ toString ".loop" : String) = "min.loop" := by decide
  refine call_function_tree F.kind_min F.plain_min F.entry_min (F.args_min2 _ _) ?_
  show wpAny _ A.in1 (Builtin.Builtins.bindParams "min" ["key", "default"] 0 ⟨[], []⟩ >>= _) _ _ s
  refine wpAny_bind (wpAny_of_eq (show Builtin.Builtins.bindParams "min" ["key", "default"] 0 ⟨[], []⟩ = pure [none, none] from rfl) ?_)
  show wpAny _ A.in1 (newTuple [a, b] >>= _) _ _ s
  refine wpAny_bind (wpAny_newObj_type ?_)
  refine wpAny_bind (wpAny_mono h (fun it s₂ h₂ => ?_) fun _ _ e => e)
  obtain ⟨I, fp, wr, G, n, P, St, H, bt, rfl, W, hst, hfp, hn, hw, hkeep, hcmp, hQ⟩ := h₂
  refine wpAny_bind (wpAny_newObj_type ?_)
  have hSf : s₂.heap.objs.size ∉ fp := fun hm => Nat.lt_irrefl _ (hfp _ hm)
  rw [hname]
  refine wpAny_pure ⟨plainId_quiet F.plain_min_loop _, codeAny_min_loop_firstH W H hw bt hcmp s₂.heap.objs.size hSf (fresh_in hkeep) _ hn (fun b o e => Heap.get?_push_of_some _ (hkeep b o e)) (W.frame 0 s₂ _ s₂.toks hst (Nat.le_refl _) fun b _ o e => Heap.get?_push_of_some _ e) (Heap.get?_push_size _ rfl) fun v s' hP hm => ?_⟩
  exact hQ v s' hP (Moved.drop_new (tk := s₂.toks) hm (Nat.le_refl _))
end
end PySem.W
namespace Mi
open PySem PySem.Spec L2
open PySem.W (iter_tupleW cmpIn_lt moved_old reads_keeps)
/-! ### min(a, b) of two data -/
def rBest2 (X : Cx) : List V → Hp → VK → Prop := fun xs H Q => ∃ (v1 v2 : V) (d1 d2 : D), xs = [v1, v2] ∧ Dp X.G H v1 d1 ∧ Dp X.G H v2 d2 ∧ PySem.W.AlikeAll [d1, d2] ∧ d1.depth ≤ 60 ∧ d2.depth ≤ 60 ∧ Q (if PySem.W.dataLt d2 d1 = true then v2 else v1) H
theorem cr_min2B {X : Cx} (hc : X.calm = true) (hu : X.A.units + 65 < cLine) : CallR X (.builtin "min") (rBest2 X) := by
  intro pins s σ H xs us Q I r h
  obtain ⟨v1, v2, d1, d2, rfl, h1, h2, hal, e1, e2, q⟩ := h
  obtain ⟨u1, u2, rfl, r1, r2⟩ := vals2 r
  have hh := I.ok.hd hc
  obtain ⟨as, q1⟩ := Dp.reads I d1 v1 u1 h1 r1
  obtain ⟨bs, q2⟩ := Dp.reads I d2 v2 u2 h2 r2
  let s1 : Shared := { s with heap := s.heap.push { cls := .type "tuple", data := .seq #[u1, u2] } }
  have hk0 : ∀ b o, s.heap.get? b = some o → s1.heap.get? b = some o := fun b o e => Heap.get?_push_of_some _ e
  have hT : s1.heap.IsTuple s.heap.objs.size #[u1, u2] := ⟨_, Heap.get?_push_size _ rfl, rfl, 0, rfl⟩
  have hr : ReadsAll s1.heap (#[u1, u2] : Array Value).toList [d1, d2] (as ++ (bs ++ [])) := .cons (reads_keeps hk0 q1) (.cons (reads_keeps hk0 q2) .nil)
  have hda : PyData.depthAll [d1, d2] ≤ 60 := depthAll_le fun d hd => by
    rcases List.mem_cons.mp hd with rfl | hd
    · exact e1
    · rw [List.mem_singleton.mp hd]; exact e2
  refine PySem.W.call_min_twoH (iter_tupleW (s := s1) (A := X.A.in1) hh hT fun s₂ e W st hfp hw hk => ?_)
  refine ⟨_, _, _, _, _, _, _, s1.heap, _, rfl, W, st, hfp, by show 0 < 2; decide, hw, hk, cmpIn_lt (A := X.A.in1) hr hal (by show X.A.units + 1 + _ < _; omega), fun v s' hP m => ?_⟩
  obtain ⟨h', tk, rfl, hk'⟩ := moved_old e rfl m
  have hkk : ∀ b o, s.heap.get? b = some o → h'.get? b = some o := fun b o e => hk' b o (hk0 b o e)
  have hP2 : v = if PySem.W.dataLt d2 d1 = true then u2 else u1 := by
    cases c : PySem.W.dataLt d2 d1 with
    | true =>
      have hb : argBest (fun i j => PySem.W.dataLt (([d1, d2] : List D).getD i .none) (([d1, d2] : List D).getD j .none)) (2 - 1) = 1 := by
        show (if PySem.W.dataLt d2 d1 = true then 1 else 0) = 1
        rw [c]; rfl
      have hP : (#[u1, u2] : Array Value)[argBest (fun i j => PySem.W.dataLt (([d1, d2] : List D).getD i .none) (([d1, d2] : List D).getD j .none)) (2 - 1)]? = some v := hP
      rw [hb] at hP
      exact (Option.some.inj hP).symm
    | false =>
      have hb : argBest (fun i j => PySem.W.dataLt (([d1, d2] : List D).getD i .none) (([d1, d2] : List D).getD j .none)) (2 - 1) = 0 := by
        show (if PySem.W.dataLt d2 d1 = true then 1 else 0) = 0
        rw [c]; rfl
      have hP : (#[u1, u2] : Array Value)[argBest (fun i j => PySem.W.dataLt (([d1, d2] : List D).getD i .none) (([d1, d2] : List D).getD j .none)) (2 - 1)]? = some v := hP
      rw [hb] at hP
      exact (Option.some.inj hP).symm
  subst hP2
  refine ⟨if PySem.W.dataLt d2 d1 = true then v2 else v1, H, I.kept hkk, ?_, q⟩
  cases PySem.W.dataLt d2 d1 with
  | true => exact r2
  | false => exact r1
structure Best2 (x z : D) : Prop where
  lx : x.canLay0 = true
  lz : z.canLay0 = true
  al : PySem.W.AlikeAll [x, z]
  dx : x.depth ≤ 60
  dz : z.depth ≤ 60
noncomputable def min2B (x z : D) : Option D := cIf (Best2 x z) (some (if PySem.W.dataLt z x = true then z else x)) none
theorem min2B_eq {x z : D} (h : Best2 x z) : min2B x z = some (if PySem.W.dataLt z x = true then z else x) := cIf_pos h
theorem me_min2B {X : Cx} {b' : Bool} {a c : Expr} {ma mc : SE} {pos p : Pos} (hcm : X.calm = true) (hu : X.A.units + 65 < cLine) (hg : Gl X "min") (hm : X.mg "min" = none) (ha : ME X false a ma) (hd : ME X false c mc)
    (he : starEach [a, c] X.env = (false, eval a X.env) :: starEach [c] X.env := by rfl) (he2 : starEach [c] X.env = (false, eval c X.env) :: starEach [] X.env := by rfl) (hpl : (backTo pos (starEach [c] X.env)).any (·.1) = false := by rfl) : ME X b' (.Call (.Name "min" p) [a, c] [] pos) (sOp min2B ma mc) := by
  refine me_B2 (b := false) (cr_min2B hcm hu) ?_ hg hm (by decide +kernel) ha hd (by decide) (by decide) he he2 hpl
  intro y dr F env σ H d1 d2 d v1 v2 Q re w1 w2 e k
  unfold min2B at e
  unfold cIf at e
  split at e
  · rename_i h
    cases e
    refine ⟨v1, v2, d1, d2, rfl, dp_mono re.rf.sub (w1.rv.dp h.lx), dp_mono re.rf.sub (w2.rv.dp h.lz), h.al, h.dx, h.dz, ?_⟩
    cases c : PySem.W.dataLt d2 d1 with
    | true => rw [c] at k; exact k _ H F re Ex.refl w2.rv
    | false => rw [c] at k; exact k _ H F re Ex.refl w1.rv
  · cases e
end Mi

namespace Mi
open PySem PySem.Spec L2
/-! ### short rows, turn by turn -/
theorem forGo_c {g : SG} {b : SS} {K : Ks} {d : D} {ds : List D} {env : En} : forGo g b K (d :: ds) env = g d env (fun e1 => b ⟨fun e => forGo g b K ds e, K.rt, K.nx, fun e => forGo g b K ds e⟩ e1) := rfl
theorem forGo_n {g : SG} {b : SS} {K : Ks} {env : En} : forGo g b K [] env = K.nx env := rfl
/-! places of a value in a row -/
def posL (x : Int) (L : List Int) : List Int := ((enumI 0 L).filter fun p => decide (p.2 = x)).map fun p => p.1
theorem posL_snoc (x y : Int) (L : List Int) : posL x (L ++ [y]) = posL x L ++ if y = x then [(L.length : Int)] else [] := by
  unfold posL
  rw [enumI_app, List.filter_append, List.map_append]
  congr 1
  by_cases c : y = x <;> simp [enumI, c]
theorem posL_nil (x : Int) : posL x [] = [] := rfl
theorem posL_none {x : Int} {L : List Int} (h : ¬ x ∈ L) : posL x L = [] := by
  unfold posL
  rw [List.map_eq_nil_iff, List.filter_eq_nil_iff]
  intro p hp
  simp
  intro e
  apply h
  have : p.2 ∈ (enumI 0 L).map (·.2) := List.mem_map_of_mem hp
  have e2 : ∀ (k : Int) (L : List Int), (enumI k L).map (·.2) = L := by
    intro k L
    induction L generalizing k with
    | nil => rfl
    | cons a L ih => simp [enumI, ih]
  rw [e2, e] at this
  exact this
theorem posL_rng (f : Int → Int) (x : Int) (n : Nat) : posL x ((rng 0 (n : Int)).map f) = (rng 0 (n : Int)).filter fun m => decide (f m = x) := by
  induction n with
  | zero => rfl
  | succ n ih =>
    rw [show ((n + 1 : Nat) : Int) = (n : Int) + 1 by omega, rng_snoc' (by omega), List.map_append, List.filter_append, ← ih, List.map_singleton, posL_snoc]
    congr 1
    have : ((rng 0 (n : Int)).map f).length = n := by unfold rng; simp
    rw [this]
    by_cases c : f n = x <;> simp [c]
/-- where each value stands -/
def posF (x : Int) (L : List Int) : D := .tuple (dInts (posL x L))
theorem DOf.pos {kvs : List (Key × D)} {L : List Int} (h : DOf posF kvs L) {x : Int} : (getG kvs (.inl x)).getD (.tuple []) = .tuple (dInts (posL x L)) := by
  obtain ⟨_, h2⟩ := h
  rw [h2]
  by_cases c : x ∈ L
  · rw [if_pos c]; rfl
  · rw [if_neg c, posL_none c]; rfl
theorem DOf.posPut {kvs : List (Key × D)} {L : List Int} (h : DOf posF kvs L) {x : Int} : DOf posF (putG kvs (.inl x) (.tuple (dInts (posL x L ++ [(L.length : Int)])))) (L ++ [x]) := by
  refine h.put ?_ fun y hy => ?_
  · unfold posF
    rw [posL_snoc, if_pos rfl]
  · unfold posF
    rw [posL_snoc, if_neg (fun e => hy e.symm), List.append_nil]
/-- members only -/
def memF (x : Int) (L : List Int) : D := .bool true
theorem DOf.memPut {kvs : List (Key × D)} {L : List Int} (h : DOf memF kvs L) {x : Int} : DOf memF (putG kvs (.inl x) (.bool true)) (L ++ [x]) := h.put rfl fun _ _ => rfl
theorem DOf.len {f : Int → List Int → D} {kvs : List (Key × D)} {L : List Int} (h : DOf f kvs L) : kvs.length ≤ L.length := by
  obtain ⟨ks, h1, h2, h3, h4⟩ := h.sorted
  rw [h4]; exact usort_len L
theorem DOf.keys {f : Int → List Int → D} {kvs : List (Key × D)} {L : List Int} (h : DOf f kvs L) (hl : L.length ≤ 16777216) {Q : List D → Prop} (q : Q (dInts (usort L))) : kvs.length ≤ 16777216 ∧ srtKeysK kvs Q := by
  obtain ⟨ks, h1, h2, h3, h4⟩ := h.sorted
  have := h.len
  refine ⟨by omega, srtKeys_i h1 ?_⟩
  rw [h3]; exact q
end Mi

namespace Mi
open PySem
/-! ### itertools.combinations: facts of the type -/
namespace Cb
theorem slot_init : Slot "itertools.combinations" "__init__" "object.__init__" := by
  refine Slot.of (owner := "object") (n := "__init__") ?_ (by decide +kernel) (by decide +kernel) (by decide +kernel) (by first | exact .inl (by decide +kernel) | exact .inr (by decide +kernel)) ?_
  · rw [typeLookup_type, builtinLookup_eq_fast]
    kernel_rfl
  · rw [isSubtype_type]
    kernel_rfl
theorem slot_next : Slot "itertools.combinations" "__next__" "itertools.combinations.__next__" := by
  refine Slot.of (owner := "itertools.combinations") (n := "__next__") ?_ (by decide +kernel) (by decide +kernel) (by decide +kernel) (by first | exact .inl (by decide +kernel) | exact .inr (by decide +kernel)) ?_
  · rw [typeLookup_type, builtinLookup_eq_fast]
    kernel_rfl
  · rw [isSubtype_type]
    kernel_rfl
theorem entry_new : entryFor table "itertools.combinations.__new__" = some Builtin.«itertools.combinations.__new__» := entryFor_of_fast (by kernel_rfl)
theorem entry_next : entryFor table "itertools.combinations.__next__" = some Builtin.«itertools.combinations.__next__» := entryFor_of_fast (by kernel_rfl)
theorem tc (a c : Value) : checkTypeCall "itertools.combinations" ⟨[a, c], []⟩ = pure () := by kernel_rfl
theorem nc (a c : Value) : checkBuiltinCall "itertools.combinations.__new__" ⟨[.type "itertools.combinations", a, c], []⟩ = pure () := by kernel_rfl
end Cb
end Mi
namespace Mi
open PySem
open AutoSeq1 (wpAny_loadPart')
namespace Cb
theorem mro : mroOf (.type "itertools.combinations") = pure [.type "itertools.combinations", .type "object"] := by
  rw [mroOf_type]
  kernel_rfl
theorem lookup_new : typeLookup (.type "itertools.combinations") "__new__" = pure (some (.builtin "itertools.combinations.__new__")) := by
  rw [typeLookup_type, builtinLookup_eq_fast]
  kernel_rfl
theorem called : TypeCalled "itertools.combinations" "itertools.combinations.__new__" "object.__init__" := by
  refine ⟨by decide +kernel, by decide +kernel, ⟨_, _, mro⟩, madeBy_type mro lookup_new (by decide +kernel), by decide +kernel, ?_, slot_init⟩
  rw [isSubtype_type]
  kernel_rfl
theorem sub_self : isSubtype (.type "itertools.combinations") (.type "itertools.combinations") = pure true := by
  rw [isSubtype_type]
  kernel_rfl
structure Coll (v : Value) (Pi : List Value → Prop) (H : Heap → Prop) : Prop where
  col : ∀ (prog : Program) (w : World) (A : Around) (E : Value → Shared → Prop) (s : Shared) (Q : List Value → Shared → Prop), A.handled = none → H s.heap →
    (∀ items (h' : Heap) tk, Pi items → (∀ b o, s.heap.get? b = some o → h'.get? b = some o) → Q items { s with heap := h', toks := tk }) → wpAny (model prog w) A (collect v) Q E s
theorem rec_eq (fs : List Value) : Builtin.Itertools.itNewRecord (.type "itertools.combinations") fs = newObj (.type "itertools.combinations") (.fields fs.toArray) := by
  unfold Builtin.Itertools.itNewRecord
  rw [if_pos (by decide +kernel)]
set_option maxHeartbeats 4000000 in
theorem meets_new {v : Value} {Pi : List Value → Prop} {H : Heap → Prop} (C : Coll v Pi H) (r : Nat) (t : Tok) (hr : r ≤ 1000) (hz : ∀ items, Pi items → items.length ≤ sizeLine) :
    Meets (Builtin.«itertools.combinations.__new__» ⟨[.type "itertools.combinations", v, .int r t], []⟩) (fun A R s => A.handled = none ∧ H s.heap ∧ ∀ items (h' : Heap) tk, Pi items → (∀ b o, s.heap.get? b = some o → h'.get? b = some o) →
      R (.ok (.ret (.ref (h'.push { cls := .type "tuple", data := .seq items.toArray }).objs.size))) { s with heap := (h'.push { cls := .type "tuple", data := .seq items.toArray }).push { cls := .type "itertools.combinations", data := .fields ([.ref h'.objs.size, rawInt (if r > items.length then 2 else 0), .none] ++ (List.range r).map fun (i : Nat) => rawInt i).toArray }, toks := tk }) :=
  .of_wp fun prog w A R s h => by
    obtain ⟨hp, g, d, tk, os⟩ := s
    obtain ⟨h0, h1, h⟩ := h
    have hsub := sub_self
    unfold Builtin.«itertools.combinations.__new__»
    wp_walk
    rw [show ("itertools." ++ "combinations" : String) = "itertools.combinations" from rfl]
    rw [hsub]
    have hlt : ¬ ((r : Int) < 0) := by omega
    have hm : Builtin.Itertools.itTooMany (r : Int) = false := by
      unfold Builtin.Itertools.itTooMany
      simp only [decide_eq_false_iff_not]
      omega
    wp_walk
    have hov : (decide ((r : Int) < -2 ^ 63) || decide ((r : Int) ≥ 2 ^ 63)) = false := by
      simp only [Bool.or_eq_false_iff, decide_eq_false_iff_not]
      omega
    rw [hov]
    refine wpAny_pure ?_
    refine wpAny_bind (C.col prog w A.in1 _ _ _ (by simpa using h0) h1 fun items h' tk' hp' hk => ?_)
    show wpAny _ _ (if (r : Int) < 0 then _ else _) _ _ _
    rw [if_neg hlt]
    show wpAny _ _ (if Builtin.Itertools.itTooMany (r : Int) = true then _ else _) _ _ _
    rw [hm, if_neg Bool.false_ne_true]
    refine wpAny_bind (wpAny_newObj_type ?_ (by show items.toArray.size ≤ sizeLine; simpa using hz items hp'))
    refine wpAny_pure ?_
    show wpAny _ _ (Builtin.Itertools.itNewRecord _ _ >>= fun v => ret v) _ _ _
    rw [show (Int.toNat (r : Int)) = r from Int.toNat_natCast r]
    rw [rec_eq]
    refine wpAny_bind (wpAny_newObj_type ?_ ?_)
    · exact wpAny_pure ⟨_, rfl, h items h' tk' hp' hk⟩
    · show _ ≤ sizeLine + 2
      rw [List.size_toArray, List.length_append, List.length_map, List.length_range, sizeLine_eq]
      simp only [List.length_cons, List.length_nil]
      omega
end Cb
end Mi
namespace Mi
open PySem
open AutoSeq1 (wpAny_loadPart')
namespace Cb
def nx (n : Nat) (ks : List Nat) : Option (List Nat) :=
  match (List.range ks.length).reverse.find? fun i => ks.getD i 0 != i + n - ks.length with
  | none => none
  | some i => some (ks.take i ++ (List.range (ks.length - i)).map (ks.getD i 0 + 1 + ·))
def combO (p : Addr) (st : Int) (old : Value) (ks : List Nat) : Obj := { cls := .type "itertools.combinations", data := .fields ([.ref p, rawInt st, old] ++ ks.map fun (i : Nat) => rawInt i).toArray }
def tupO (us : List Value) : Obj := { cls := .type "tuple", data := .seq us.toArray }
def pk (us : List Value) (ks : List Nat) : List Value := ks.map fun i => us.toArray.getD i .none
theorem owner : Manifest.owners.lookup (String.ofList ['s', 'n', 'o', 'i', 't', 'a', 'n', 'i', 'b', 'm', 'o', 'c', '.', 's', 'l', 'o', 'o', 't', 'r', 'e', 't', 'i'].reverse) = some Manifest.sig_itertools_combinations := by kernel_rfl
theorem args_next (a : Value) : argsOk "itertools.combinations.__next__" ⟨[a], []⟩ := by
  unfold argsOk
  rw [signature?_of (id := "itertools.combinations.__next__") (n := ['_', '_', 't', 'x', 'e', 'n', '_', '_']) (o := ['s', 'n', 'o', 'i', 't', 'a', 'n', 'i', 'b', 'm', 'o', 'c', '.', 's', 'l', 'o', 'o', 't', 'r', 'e', 't', 'i']) (by kernel_rfl) owner]
  kernel_rfl
theorem nums (p : Addr) (st : Int) (old : Value) (ks : List Nat) : List.map (fun (x : Value) => match x with
    | .int n _ => n.toNat
    | _ => 0) (List.drop 3 ([Value.ref p, rawInt st, old] ++ List.map (fun (i : Nat) => rawInt i) ks).toArray.toList) = ks := by
  show List.map _ (List.map (fun (i : Nat) => rawInt i) ks) = ks
  rw [List.map_map]
  conv => rhs; rw [← List.map_id ks]
  apply List.map_congr_left
  intro k _
  show (k : Int).toNat = k
  simp
section
variable {prog : Program} {w : World} {A : Around} {E : Value → Shared → Prop} {s : Shared} {it p : Addr} {us : List Value} {ks ks' : List Nat} {old : Value}
/-- the next state: what is handed out stands in the third field -/
def out (h' : Heap) (s : Shared) (it p : Addr) (us : List Value) (ks : List Nat) : Prop := h'.get? it = some (combO p 1 (.ref s.heap.objs.size) ks) ∧ h'.get? s.heap.objs.size = some (tupO (pk us ks)) ∧ ∀ b o, b ≠ it → s.heap.get? b = some o → h'.get? b = some o
theorem upd1 (st : Int) : Obj.mapFields (fun x => x.setIfInBounds 1 (rawInt 1)) (combO p st old ks) = combO p 1 old ks := by
  unfold combO Obj.mapFields
  simp
theorem upd2 (st : Int) (v : Value) : Obj.mapFields (fun x => x.setIfInBounds 2 v) (combO p st old ks) = combO p st v ks := by
  unfold combO Obj.mapFields
  simp
theorem it_ne (h0 : s.heap.get? it = some (combO p 0 old ks)) : it ≠ s.heap.objs.size := fun z => by
  have := Heap.lt_size h0
  rw [z] at this
  exact Nat.lt_irrefl _ this
theorem it_np {st : Int} (h0 : s.heap.get? it = some (combO p st old ks)) (h1 : s.heap.get? p = some (tupO us)) : it ≠ p := fun z => by
  rw [z, h1] at h0
  have e : Value.type "tuple" = Value.type "itertools.combinations" := congrArg Obj.cls (Option.some.inj h0)
  exact absurd e (by decide)
set_option maxHeartbeats 4000000 in
theorem next0 {Q : Value → Shared → Prop} (h0 : s.heap.get? it = some (combO p 0 .none ks)) (h1 : s.heap.get? p = some (tupO us)) (hk : ks.length ≤ 1000)
    (h : ∀ h', out h' s it p us ks → Q (.ref s.heap.objs.size) { s with heap := h' }) : wpAny (model prog w) A (Builtin.«itertools.combinations.__next__» ⟨[.ref it], []⟩) (fun fin s' => ∃ v, fin = .done (.ret v) ∧ Q v s') E s := by
  obtain ⟨hp, g, d, tk, os⟩ := s
  have hne := it_ne h0
  have hnp := it_np h0 h1
  have h0' := h0
  unfold combO at h0
  unfold tupO at h1
  unfold Builtin.«itertools.combinations.__next__»
  wp_walk using wpAny_loadPart' h0
  have e1 := nums p 0 .none ks
  erw [e1]
  rw [if_neg (by show ¬ _ > _; simp only [List.size_toArray, List.length_map, sizeLine_eq]; omega)]
  have g1 := Heap.get?_update_self (Obj.mapFields fun x => x.setIfInBounds 1 (rawInt 1)) h0' rfl
  rw [upd1] at g1
  have g2 := Heap.get?_push_of_some (tupO (pk us ks)) g1
  have hz : ((Shared.heap ⟨hp, g, d, tk, os⟩).update it (Obj.mapFields fun x => x.setIfInBounds 1 (rawInt 1))).objs.size = hp.objs.size := Heap.size_after_update ..
  show wpAny _ _ (newObjAsIs (.type "tuple") (.seq (pk us ks).toArray)) _ _ _
  have g3 := g2
  unfold combO tupO at g3
  wp_walk using wpAny_loadPart' g3
  refine ⟨_, rfl, ?_⟩
  have g4 := Heap.get?_update_self (Obj.mapFields fun x => x.setIfInBounds 2 (.ref hp.objs.size)) g2 rfl
  rw [upd2] at g4
  have hz' : (hp.update it (Obj.mapFields fun x => x.setIfInBounds 1 (rawInt 1))).objs.size = hp.objs.size := hz
  rw [hz']
  refine h _ ⟨g4, ?_, fun b o hb e => ?_⟩
  · refine (Heap.get?_update_other _ _ hne).trans ?_
    have := Heap.get?_push_size (hp.update it (Obj.mapFields fun x => x.setIfInBounds 1 (rawInt 1))) (o := tupO (pk us ks)) rfl
    rw [hz'] at this
    exact this
  · exact (Heap.get?_update_other _ _ (Ne.symm hb)).trans (Heap.get?_push_of_some _ ((Heap.get?_update_other _ _ (Ne.symm hb)).trans e))
theorem it_ne' {st : Int} (h0 : s.heap.get? it = some (combO p st old ks)) : it ≠ s.heap.objs.size := fun z => by
  have := Heap.lt_size h0
  rw [z] at this
  exact Nat.lt_irrefl _ this
theorem setnums (old' : Value) : (Obj.mapFields fun fs => fs.extract 0 3 ++ (ks'.map fun (n : Nat) => rawInt n).toArray) (combO p 1 old ks) = combO p 1 old ks' := by
  unfold combO Obj.mapFields
  simp
set_option maxHeartbeats 4000000 in
theorem next1 {Q : Value → Shared → Prop} (h0 : s.heap.get? it = some (combO p 1 old ks)) (h1 : s.heap.get? p = some (tupO us)) (hk : ks.length ≤ 1000) (hk' : ks'.length ≤ 1000) (hx : nx us.length ks = some ks')
    (h : ∀ h', out h' s it p us ks' → Q (.ref s.heap.objs.size) { s with heap := h' }) : wpAny (model prog w) A (Builtin.«itertools.combinations.__next__» ⟨[.ref it], []⟩) (fun fin s' => ∃ v, fin = .done (.ret v) ∧ Q v s') E s := by
  obtain ⟨hp, g, d, tk, os⟩ := s
  have hne := it_ne' h0
  have hnp := it_np h0 h1
  have h0' := h0
  unfold combO at h0
  unfold tupO at h1
  unfold Builtin.«itertools.combinations.__next__»
  wp_walk using wpAny_loadPart' h0
  have e1 := nums p 1 old ks
  erw [e1]
  split
  · rename_i next heq
    have heq' : nx us.length ks = some next := heq
    rw [hx] at heq'
    cases heq'
    wp_walk using wpAny_loadPart' h0
    have g1 := Heap.get?_update_self (Obj.mapFields fun fs => fs.extract 0 3 ++ (ks'.map fun (n : Nat) => rawInt n).toArray) h0' rfl
    rw [setnums old] at g1
    have g2 := Heap.get?_push_of_some (tupO (pk us ks')) g1
    have hz : (hp.update it (Obj.mapFields fun fs => fs.extract 0 3 ++ (ks'.map fun (n : Nat) => rawInt n).toArray)).objs.size = hp.objs.size := Heap.size_after_update ..
    have hp2 : (combO p 1 old ks').data.pastItsLine = none := by
      show (if ([Value.ref p, rawInt 1, old] ++ ks'.map fun (i : Nat) => rawInt i).toArray.size > sizeLine + 3 then some "record:memory" else none) = none
      rw [if_neg]
      simp only [List.size_toArray, List.length_append, List.length_map, List.length_cons, List.length_nil, sizeLine_eq]
      omega
    rw [setnums old, hp2]
    refine wpAny_pure ?_
    have g0 := g1
    unfold combO at g0
    wp_walk using wpAny_loadPart' g0
    rw [if_neg (by show ¬ _ > _; simp only [List.size_toArray, List.length_map, sizeLine_eq]; omega)]
    show wpAny _ _ (newObjAsIs (.type "tuple") (.seq (pk us ks').toArray)) _ _ _
    have g3 := g2
    unfold combO tupO at g3
    wp_walk using wpAny_loadPart' g3
    refine ⟨_, rfl, ?_⟩
    have g4 := Heap.get?_update_self (Obj.mapFields fun x => x.setIfInBounds 2 (.ref hp.objs.size)) g2 rfl
    rw [upd2] at g4
    rw [hz]
    refine h _ ⟨g4, ?_, fun b o hb e => ?_⟩
    · refine (Heap.get?_update_other _ _ hne).trans ?_
      have := Heap.get?_push_size (hp.update it (Obj.mapFields fun fs => fs.extract 0 3 ++ (ks'.map fun (n : Nat) => rawInt n).toArray)) (o := tupO (pk us ks')) rfl
      rw [hz] at this
      exact this
    · exact (Heap.get?_update_other _ _ (Ne.symm hb)).trans (Heap.get?_push_of_some _ ((Heap.get?_update_other _ _ (Ne.symm hb)).trans e))
  · rename_i heq
    have heq' : nx us.length ks = none := heq
    rw [hx] at heq'
    cases heq'
theorem slot_iter : Slot "itertools.combinations" "__iter__" "itertools.combinations.__iter__" := by
  refine Slot.of (owner := "itertools.combinations") (n := "__iter__") ?_ (by decide +kernel) (by decide +kernel) (by decide +kernel) (by first | exact .inl (by decide +kernel) | exact .inr (by decide +kernel)) ?_
  · rw [typeLookup_type, builtinLookup_eq_fast]
    kernel_rfl
  · rw [isSubtype_type]
    kernel_rfl
theorem entry_iter : entryFor table "itertools.combinations.__iter__" = some Builtin.«dict_keyiterator.__iter__» :=
  entryFor_alias (id' := "dict_keyiterator.__iter__") (by kernel_rfl) (by first | rfl | decide +kernel | (unfold String.splitOn; simp +decide [String.splitOnAux])) (by decide +kernel) (by kernel_rfl)
theorem args_iter (a : Value) : argsOk "itertools.combinations.__iter__" ⟨[a], []⟩ := by
  unfold argsOk
  rw [signature?_of (id := "itertools.combinations.__iter__") (n := ['_', '_', 'r', 'e', 't', 'i', '_', '_']) (o := ['s', 'n', 'o', 'i', 't', 'a', 'n', 'i', 'b', 'm', 'o', 'c', '.', 's', 'l', 'o', 'o', 't', 'r', 'e', 't', 'i']) (by kernel_rfl) owner]
  kernel_rfl
/-- the end: StopIteration -/
theorem stop_here {Q : Option Value → Shared → Prop} {h1 : Heap} {s1 : Shared} (hh : A.handled = none) (hQ : ∀ h', (∀ b o, s1.heap.get? b = some o → h'.get? b = some o) → Q none { s1 with heap := h' }) :
    wpAny (model prog w) A.in1 (Builtin.Itertools.itStop (α := Fin)) (fun fin s' => ∃ v, fin = .done (.ret v) ∧ False) (fun e s' => wpAny (model prog w) A (isInstance e (.type "StopIteration")) (fun b s2 => b = true ∧ Q none s2) E s') s1 := by
  show wpAny _ _ (newExc (.type "StopIteration") [] >>= _) _ _ _
  refine wpAny_bind ?_
  simp only [newExc, newTuple]
  refine wpAny_bind (wpAny_newObj_type ?_ (by size_fits))
  refine wpAny_bind (m := firstArgMember _ _) (wpAny_of_eq (a := Value.none) (by first | rfl | (simp only [firstArgMember]; rfl)) ?_)
  refine wpAny_newObj_type ?_ (by size_fits)
  simp only [raiseNew]
  refine wpAny_bind (wpAny_handled ?_)
  rw [show A.in1.handled = none from hh]
  refine wpAny_bind (wpAny_pure (wpAny_throw ?_))
  refine wpAny_isInstance (T := "StopIteration") (b := true) ⟨_, Heap.get?_push_size _ rfl, rfl⟩ isSubtype_stop ?_
  exact ⟨rfl, hQ _ fun b o e => Heap.get?_push_of_some _ (Heap.get?_push_of_some _ e)⟩
end
end Cb
end Mi

namespace Mi
open PySem
open AutoSeq1 (wpAny_loadPart')
namespace Cb
section
variable {prog : Program} {w : World} {A : Around} {E : Value → Shared → Prop} {s : Shared} {it p : Addr} {us : List Value} {ks ks' : List Nat} {old : Value}
theorem nexts {R : Option Value → Shared → Prop} {st : Int} (h0 : s.heap.get? it = some (combO p st old ks)) (h : wpAny (model prog w) A.in1 (Builtin.«itertools.combinations.__next__» ⟨[.ref it], []⟩) (fun fin s' => ∃ v, fin = .done (.ret v) ∧ R (some v) s')
    (fun e s' => wpAny (model prog w) A (isInstance e (.type "StopIteration")) (fun b s2 => b = true ∧ R none s2) E s') s) : wpAny (model prog w) A (pyNext (.ref it)) R E s := by
  have hT : s.TypeIs (.ref it) "itertools.combinations" := ⟨_, h0, rfl⟩
  unfold pyNext
  refine wpAny_bind (wpAny_attempt (wpAny_callSpecial?_slot (name := Str.ofString "__next__") hT slot_next (wpAny_call_entry slot_next hT entry_next (wpAny_mono h (fun fin s' ⟨v, e, q⟩ => ⟨v, e, wpAny_pure q⟩) fun e s' q => ?_) (args_next _))))
  refine wpAny_bind (wpAny_mono q (fun b s2 ⟨hb, q⟩ => ?_) fun _ _ x => x)
  subst hb
  exact wpAny_pure q
theorem pyIter_comb {Q : Value → Shared → Prop} {st : Int} (h0 : s.heap.get? it = some (combO p st old ks)) (h : Q (.ref it) s) : wpAny (model prog w) A (pyIter (.ref it)) Q E s := by
  have hT : s.TypeIs (.ref it) "itertools.combinations" := ⟨_, h0, rfl⟩
  refine wpAny_pyIter_slot hT slot_iter (wpAny_call_entry slot_iter hT entry_iter ?_ (args_iter _))
  show wpAny _ _ (ret (.ref it)) _ _ s
  exact wpAny_pure ⟨_, rfl, "itertools.combinations", _, hT, slot_next.lookup, h⟩
theorem raise_here {R : Option Value → Shared → Prop} {s1 : Shared} {e : Addr} {o : Obj} (hh : A.handled = none) (he : s1.heap.get? e = some o) (hc : o.cls = .type "StopIteration") (h : R none s1) :
    wpAny (model prog w) A.in1 (raiseNew (α := Fin) (.ref e)) (fun fin s' => ∃ v, fin = .done (.ret v) ∧ R (some v) s') (fun e s' => wpAny (model prog w) A (isInstance e (.type "StopIteration")) (fun b s2 => b = true ∧ R none s2) E s') s1 := by
  simp only [raiseNew]
  refine wpAny_bind (wpAny_handled ?_)
  rw [show A.in1.handled = none from hh]
  refine wpAny_bind (wpAny_pure (wpAny_throw ?_))
  exact wpAny_isInstance (T := "StopIteration") (b := true) ⟨_, he, hc⟩ isSubtype_stop ⟨rfl, h⟩
set_option maxHeartbeats 4000000 in
theorem end1 {R : Option Value → Shared → Prop} (hh : A.handled = none) (h0 : s.heap.get? it = some (combO p 1 old ks)) (h1 : s.heap.get? p = some (tupO us)) (hk : ks.length ≤ 1000) (hx : nx us.length ks = none)
    (h : ∀ h', (∀ b o, b ≠ it → s.heap.get? b = some o → h'.get? b = some o) → R none { s with heap := h' }) : wpAny (model prog w) A (pyNext (.ref it)) R E s := by
  refine nexts h0 ?_
  obtain ⟨hp, g, d, tk, os⟩ := s
  have hnp := it_np h0 h1
  have h0' := h0
  unfold combO at h0
  unfold tupO at h1
  unfold Builtin.«itertools.combinations.__next__»
  wp_walk using wpAny_loadPart' h0
  have e1 := nums p 1 old ks
  erw [e1]
  split
  · rename_i next heq
    have heq' : nx us.length ks = some next := heq
    rw [hx] at heq'
    cases heq'
  · wp_walk using wpAny_loadPart' h0
    refine raise_here hh (Heap.get?_push_size _ rfl) rfl (h _ fun b o hb e => ?_)
    exact Heap.get?_push_of_some _ (Heap.get?_push_of_some _ ((Heap.get?_update_other _ _ (Ne.symm hb)).trans e))
theorem end2 {R : Option Value → Shared → Prop} (hh : A.handled = none) (h0 : s.heap.get? it = some (combO p 2 old ks)) 
    (h : ∀ h', (∀ b o, b ≠ it → s.heap.get? b = some o → h'.get? b = some o) → R none { s with heap := h' }) : wpAny (model prog w) A (pyNext (.ref it)) R E s := by
  refine nexts h0 ?_
  obtain ⟨hp, g, d, tk, os⟩ := s
  have h0' := h0
  unfold combO at h0
  unfold Builtin.«itertools.combinations.__next__»
  wp_walk using wpAny_loadPart' h0
  exact raise_here hh (Heap.get?_push_size _ rfl) rfl (h _ fun b o hb e => Heap.get?_push_of_some _ (Heap.get?_push_of_some _ e))
/-! the rows, in order -/
def cmb {α : Type} : Nat → List α → List (List α)
  | 0, _ => [[]]
  | _ + 1, [] => []
  | r + 1, x :: xs => (cmb r xs).map (x :: ·) ++ cmb (r + 1) xs
theorem cmb_map {α β : Type} (f : α → β) : ∀ (r : Nat) (xs : List α), cmb r (xs.map f) = (cmb r xs).map (List.map f)
  | 0, xs => by cases xs <;> rfl
  | _ + 1, [] => rfl
  | r + 1, x :: xs => by
    show (cmb r (xs.map f)).map (f x :: ·) ++ cmb (r + 1) (xs.map f) = ((cmb r xs).map (x :: ·) ++ cmb (r + 1) xs).map (List.map f)
    rw [cmb_map f r xs, cmb_map f (r + 1) xs, List.map_append, List.map_map, List.map_map]
    rfl
theorem cmb_len {α : Type} : ∀ (r : Nat) (xs : List α), (cmb r xs).length ≤ 2 ^ xs.length
  | 0, xs => by
    cases xs with
    | nil => exact Nat.le_refl 1
    | cons x xs => exact Nat.one_le_two_pow
  | _ + 1, [] => Nat.zero_le _
  | r + 1, x :: xs => by
    show ((cmb r xs).map (x :: ·) ++ cmb (r + 1) xs).length ≤ _
    rw [List.length_append, List.length_map, List.length_cons, Nat.pow_succ]
    have := cmb_len r xs
    have := cmb_len (r + 1) xs
    omega
theorem cmb_mem_len {α : Type} : ∀ (r : Nat) (xs ks : List α), ks ∈ cmb r xs → ks.length = r
  | 0, xs, ks, h => by
    have e : cmb 0 xs = [[]] := by cases xs <;> rfl
    rw [e] at h
    rw [List.mem_singleton.mp h]
    rfl
  | _ + 1, [], ks, h => by cases h
  | r + 1, x :: xs, ks, h => by
    rcases List.mem_append.mp h with h | h
    · obtain ⟨t, ht, rfl⟩ := List.mem_map.mp h
      rw [List.length_cons, cmb_mem_len r xs t ht]
    · exact cmb_mem_len (r + 1) xs ks h
theorem cmb_none {α : Type} : ∀ (r : Nat) (xs : List α), xs.length < r → cmb r xs = []
  | 0, _, h => absurd h (Nat.not_lt_zero _)
  | _ + 1, [], _ => rfl
  | r + 1, x :: xs, h => by
    have h : xs.length < r := by simpa using h
    show (cmb r xs).map (x :: ·) ++ cmb (r + 1) xs = []
    rw [cmb_none r xs h, cmb_none (r + 1) xs (by omega)]
    rfl
theorem cmb_head {α : Type} : ∀ (r : Nat) (xs : List α), r ≤ xs.length → (cmb r xs)[0]? = some (xs.take r)
  | 0, xs, _ => by cases xs <;> rfl
  | _ + 1, [], h => absurd h (by simp)
  | r + 1, x :: xs, h => by
    have h : r ≤ xs.length := by simpa using h
    show ((cmb r xs).map (x :: ·) ++ cmb (r + 1) xs)[0]? = _
    have ih := cmb_head r xs h
    have hl : 0 < (cmb r xs).length := (List.getElem?_eq_some_iff.mp ih).1
    rw [List.getElem?_append_left (by rw [List.length_map]; exact hl), List.getElem?_map, ih]
    rfl
theorem nx_nil (n : Nat) : nx n [] = none := rfl
theorem find_map {α β : Type} (f : α → β) (q : β → Bool) (l : List α) : (l.map f).find? q = (l.find? fun x => q (f x)).map f := by
  induction l with
  | nil => rfl
  | cons a l ih =>
    rw [List.map_cons, List.find?_cons, List.find?_cons, ih]
    cases q (f a) <;> rfl
theorem nx_cons (n k : Nat) (t : List Nat) : nx n (k :: t) = match nx n t with
    | some t' => some (k :: t')
    | none => if k = n - (t.length + 1) then none else some ((List.range (t.length + 1)).map (k + 1 + ·)) := by
  unfold nx
  have e : (List.range (k :: t).length).reverse = (List.range t.length).reverse.map (· + 1) ++ [0] := by
    rw [List.length_cons, List.range_succ_eq_map, List.reverse_cons, List.map_reverse]
  rw [e, List.find?_append, find_map]
  have ep : (fun x : Nat => (k :: t).getD (x + 1) 0 != x + 1 + n - (k :: t).length) = fun x => t.getD x 0 != x + n - t.length := by
    funext x
    have e1 : (k :: t).getD (x + 1) 0 = t.getD x 0 := by simp
    have e2 : x + 1 + n - (k :: t).length = x + n - t.length := by rw [List.length_cons]; omega
    rw [e1, e2]
  rw [ep]
  cases hf : (List.range t.length).reverse.find? fun x => t.getD x 0 != x + n - t.length with
  | some i =>
    have hi : i < t.length := by
      have := List.mem_of_find?_eq_some hf
      simpa using this
    show some ((k :: t).take (i + 1) ++ (List.range ((k :: t).length - (i + 1))).map ((k :: t).getD (i + 1) 0 + 1 + ·)) = some (k :: (t.take i ++ (List.range (t.length - i)).map (t.getD i 0 + 1 + ·)))
    have e1 : (k :: t).getD (i + 1) 0 = t.getD i 0 := by simp
    have e2 : (k :: t).length - (i + 1) = t.length - i := by rw [List.length_cons]; omega
    rw [e1, e2]
    rfl
  | none =>
    show (match (none : Option Nat) <|> [0].find? fun i => (k :: t).getD i 0 != i + n - (k :: t).length with | none => none | some i => some ((k :: t).take i ++ (List.range ((k :: t).length - i)).map ((k :: t).getD i 0 + 1 + ·))) = _
    have e3 : ([0].find? fun i => (k :: t).getD i 0 != i + n - (k :: t).length) = if k = n - (t.length + 1) then none else some 0 := by
      rw [List.find?_singleton]
      have : (k :: t).getD 0 0 = k := rfl
      rw [this, Nat.zero_add, List.length_cons]
      by_cases c : k = n - (t.length + 1)
      · rw [if_pos c]
        simp [c]
      · rw [if_neg c]
        simp [c]
    rw [e3]
    by_cases c : k = n - (t.length + 1)
    · simp [c]
    · simp [c]
/-- each row's next is the next row -/
theorem chain : ∀ (m r lo i : Nat) (ks : List Nat), (cmb r (List.range' lo m))[i]? = some ks → nx (lo + m) ks = (cmb r (List.range' lo m))[i + 1]?
  | m, 0, lo, i, ks, h => by
    have e : cmb 0 (List.range' lo m) = [[]] := by cases m <;> rfl
    rw [e] at h ⊢
    cases i with
    | zero => cases h; rfl
    | succ i => simp at h
  | 0, r + 1, lo, i, ks, h => by simp [cmb] at h
  | m + 1, r + 1, lo, i, ks, h => by
    rw [List.range'_succ] at h ⊢
    have ih1 := chain m r (lo + 1)
    have ih2 := chain m (r + 1) (lo + 1)
    have en : lo + 1 + m = lo + (m + 1) := by omega
    rw [en] at ih1 ih2
    have er : (List.range' (lo + 1) m).length = m := List.length_range'
    generalize hA : cmb r (List.range' (lo + 1) m) = A at ih1
    generalize hB : cmb (r + 1) (List.range' (lo + 1) m) = B at ih2
    show nx (lo + (m + 1)) ks = ((cmb r (List.range' (lo + 1) m)).map (lo :: ·) ++ cmb (r + 1) (List.range' (lo + 1) m))[i + 1]?
    replace h : ((cmb r (List.range' (lo + 1) m)).map (lo :: ·) ++ cmb (r + 1) (List.range' (lo + 1) m))[i]? = some ks := h
    rw [hA, hB] at h ⊢
    by_cases c : i < A.length
    · rw [List.getElem?_append_left (by rw [List.length_map]; exact c), List.getElem?_map] at h
      cases ha : A[i]? with
      | none => rw [ha] at h; cases h
      | some a =>
        rw [ha] at h
        cases h
        have hla : a.length = r := cmb_mem_len r _ a (by rw [hA]; exact List.mem_of_getElem? ha)
        have hrm : r ≤ m := by
          apply Nat.le_of_not_lt
          intro z
          rw [cmb_none r _ (by rw [er]; exact z)] at hA
          rw [← hA] at ha
          cases ha
        rw [nx_cons, ih1 i a ha, hla]
        by_cases c2 : i + 1 < A.length
        · rw [List.getElem?_append_left (by rw [List.length_map]; exact c2), List.getElem?_map, List.getElem?_eq_getElem c2]
          rfl
        · rw [List.getElem?_append_right (by rw [List.length_map]; omega), List.length_map, List.getElem?_eq_none (by omega), show i + 1 - A.length = 0 by omega]
          by_cases c3 : lo = lo + (m + 1) - (r + 1)
          · have : m < r + 1 := by omega
            rw [cmb_none (r + 1) _ (by rw [er]; exact this)] at hB
            rw [← hB]
            simp only [if_pos c3]
            rfl
          · have : r + 1 ≤ m := by omega
            rw [← hB, cmb_head (r + 1) _ (by rw [er]; exact this)]
            simp only [if_neg c3]
            congr 1
            have e4 : (List.range' (lo + 1) m).take (r + 1) = List.range' (lo + 1) (r + 1) := by
              apply List.ext_getElem?
              intro j
              by_cases hj : j < r + 1
              · rw [List.getElem?_take_of_lt hj, List.getElem?_range' (by omega), List.getElem?_range' hj]
              · rw [List.getElem?_eq_none (by rw [List.length_take]; omega), List.getElem?_eq_none (by rw [List.length_range']; omega)]
            rw [e4, List.range'_eq_map_range]
    · rw [List.getElem?_append_right (by rw [List.length_map]; omega), List.length_map] at h
      rw [List.getElem?_append_right (by rw [List.length_map]; omega), List.length_map, show i + 1 - A.length = i - A.length + 1 by omega]
      exact ih2 _ _ h
end
end Cb
end Mi
namespace Mi
open PySem PySem.Spec L2
namespace Cb
/-! ### for .. in combinations(..) -/
def Jc (n : Nat) (yp : Nat → List V → Prop) : It :=
  ⟨fun i H => i < n, fun i H v H' => ∃ T vs o, TuO o ∧ v = .ref T ∧ H T = none ∧ H' = upd H T (.frz o (.tup vs)) ∧ yp i vs, fun i H => i = n⟩
def combTn (us : List Value) (r : Nat) (it p : Addr) (i : Nat) (h : Heap) : Prop := h.get? p = some (tupO us) ∧ ∃ st old ks, h.get? it = some (combO p st old ks) ∧ ks.length ≤ 1000 ∧
  ((i = 0 ∧ st = (if r > us.length then 2 else 0) ∧ old = .none ∧ ks = List.range r) ∨ (∃ j, i = j + 1 ∧ st = 1 ∧ (cmb r (List.range us.length))[j]? = some ks))
theorem range_take {r n : Nat} (h : r ≤ n) : (List.range n).take r = List.range r := by
  rw [List.take_range, Nat.min_eq_left h]
theorem comb_len (us : List Value) (r : Nat) : (cmb r (List.range us.length)).length = (cmb r us).length := by
  have e : us = (List.range us.length).map fun i => us.toArray.getD i .none := by
    apply List.ext_getElem?
    intro j
    rw [List.getElem?_map]
    by_cases hj : j < us.length
    · rw [List.getElem?_range hj, List.getElem?_eq_getElem hj]
      simp [hj]
    · rw [List.getElem?_eq_none (by omega), List.getElem?_eq_none (by simp; omega)]
      rfl
  conv => rhs; rw [e, cmb_map, List.length_map]
theorem turn_comb {P : Program} {w : World} {K : PySem.W.Frag} {tg : Expr} {it p : Addr} {vs : List V} {us : List Value} {r : Nat} (rv : Vals vs us) (hr : r ≤ 1000) (hz : us.length ≤ 1000) :
    Turn P w K tg (Jc (cmb r vs).length fun i ws => (cmb r vs)[i]? = some ws) [it, p] it (combTn us r it p) := by
  have hlen : (cmb r vs).length = (cmb r (List.range us.length)).length := by
    have e : vs = (List.range us.length).map fun i => vs.getD i .non := by
      apply List.ext_getElem?
      intro j
      rw [List.getElem?_map, ← rv.length]
      by_cases hj : j < vs.length
      · rw [List.getElem?_range hj, List.getElem?_eq_getElem hj]
        simp [hj]
      · rw [List.getElem?_eq_none (by omega), List.getElem?_eq_none (by simp; omega)]
        rfl
    conv => lhs; rw [e, cmb_map, List.length_map]
  have hyp : ∀ (i : Nat) (ks : List Nat), (cmb r (List.range us.length))[i]? = some ks → ∃ ws, (cmb r vs)[i]? = some ws ∧ Vals ws (pk us ks) := fun i ks hk => by
    have e : vs = (List.range us.length).map fun i => vs.getD i .non := by
      apply List.ext_getElem?
      intro j
      rw [List.getElem?_map, ← rv.length]
      by_cases hj : j < vs.length
      · rw [List.getElem?_range hj, List.getElem?_eq_getElem hj]
        simp [hj]
      · rw [List.getElem?_eq_none (by omega), List.getElem?_eq_none (by simp; omega)]
        rfl
    refine ⟨ks.map fun i => vs.getD i .non, ?_, ?_⟩
    · conv => lhs; rw [e, cmb_map, List.getElem?_map, hk]
      rfl
    · have hm : ∀ k ∈ ks, k < us.length := by
        have : ∀ (q : Nat) (xs ks : List Nat), ks ∈ cmb q xs → ∀ k ∈ ks, k ∈ xs := by
          intro q xs
          induction xs generalizing q with
          | nil =>
            intro ks h k hk
            cases q with
            | zero => simp [cmb] at h; subst h; exact hk
            | succ q => simp [cmb] at h
          | cons x xs ih =>
            intro ks h k hk
            cases q with
            | zero => simp [cmb] at h; subst h; cases hk
            | succ q =>
              rcases List.mem_append.mp h with h | h
              · obtain ⟨t, ht, rfl⟩ := List.mem_map.mp h
                rcases List.mem_cons.mp hk with rfl | hk
                · exact List.mem_cons_self
                · exact List.mem_cons_of_mem _ (ih q t ht k hk)
              · exact List.mem_cons_of_mem _ (ih (q + 1) ks h k hk)
        intro k hkk
        have := this r _ ks (List.mem_of_getElem? hk) k hkk
        simpa using this
      unfold pk
      clear hk
      induction ks with
      | nil => exact .nil
      | cons k t ih =>
        refine .cons ?_ (ih fun a ha => hm a (List.mem_cons_of_mem _ ha))
        have hk : k < vs.length := by rw [rv.length]; exact hm k List.mem_cons_self
        obtain ⟨u, h1, h2⟩ := rv.get (List.getElem?_eq_getElem hk)
        have e1 : vs.getD k .non = vs[k] := by simp [hk]
        have e2 : us.toArray.getD k .none = u := by
          have hku : k < us.length := hm k List.mem_cons_self
          rw [List.getElem?_eq_getElem hku] at h1
          cases h1
          simp [hku]
        show RelV (vs.getD k .non) (us.toArray.getD k .none)
        rw [e1, e2]
        exact h2
  have hL0 : ∀ {i : Nat} {ks : List Nat}, (cmb r (List.range us.length))[i]? = some ks → nx us.length ks = (cmb r (List.range us.length))[i + 1]? := fun {i ks} h => by
    have := chain us.length r 0 i ks (by rw [← List.range_eq_range']; exact h)
    rw [← List.range_eq_range', Nat.zero_add] at this
    exact this
  have hkl : ∀ {i : Nat} {ks : List Nat}, (cmb r (List.range us.length))[i]? = some ks → ks.length ≤ 1000 := fun {i ks} h => by
    rw [cmb_mem_len r _ ks (List.mem_of_getElem? h)]
    exact hr
  refine ⟨by simp, fun i h st b hb => ?_, fun i h h' st k => ?_, ?_, ?_, fun A i s Q E st h => ?_⟩
  · obtain ⟨h1, st', old, ks, h2, _⟩ := st
    have e : b = it ∨ b = p := by simpa using hb
    rcases e with rfl | rfl
    · exact ⟨_, h2, fun v q => nomatch q⟩
    · exact ⟨_, h1, fun v q => nomatch q⟩
  · obtain ⟨h1, st', old, ks, h2, h3⟩ := st
    exact ⟨k p (by simp) _ h1, st', old, ks, k it (by simp) _ h2, h3⟩
  · intro X hP hw hK hc i pins s σ H E I hf st hg
    subst hP hw hK
    have hi : i < (cmb r vs).length := hg
    obtain ⟨h1, st', old, ks, h2, hk, h3⟩ := st
    have fin : ∀ {ks' : List Nat} {h' : Heap}, (cmb r (List.range us.length))[i]? = some ks' → out h' s it p us ks' →
        ∃ u, some (Value.ref s.heap.objs.size) = some u ∧ wpAny (model X.prog X.w) X.A (letOwnedTupleGo tg (.ref it) u) (fun _ s2 => ∃ x H', Inv X pins σ H' s2 ∧ RelV x u ∧ (Jc (cmb r vs).length fun i ws => (cmb r vs)[i]? = some ws).yld i H x H' ∧ combTn us r it p (i + 1) s2.heap ∧ ∀ b ∈ [it, p], H' b = none) E { s with heap := h' } := by
      intro ks' h' hks ho
      obtain ⟨o1, o2, o3⟩ := ho
      obtain ⟨ws, w1, w2⟩ := hyp i ks' hks
      refine ⟨_, rfl, go_of (s := { s with heap := h' }) o1 rfl rfl (by decide) ?_⟩
      have wl : ws.length ≤ sizeLine := by
        have := w2.length
        unfold pk at this
        rw [List.length_map] at this
        have := hkl hks
        rw [sizeLine_eq]
        omega
      have I1 : Inv X pins σ (upd H s.heap.objs.size (.frz (nT (pk us ks')) (.tup ws))) { s with heap := h' } :=
        I.turnedNew (t' := s.toks) (ch := [it]) (fun b o hb e => o3 b o (fun z => hb (by simp [z])) e) (fun b hb => hf b (by simp at hb ⊢; exact .inl hb)) (Nat.le_refl _) (okT w2 wl o2)
      refine ⟨.ref s.heap.objs.size, _, I1, rfl, ⟨_, ws, _, nT_TuO _, rfl, I.hok.fresh (Nat.le_refl _), rfl, w1⟩, ⟨?_, 1, _, ks', o1, hkl hks, .inr ⟨i, rfl, rfl, hks⟩⟩, fun b hb => ?_⟩
      · refine o3 p _ (fun z => ?_) h1
        exact it_np h2 h1 z.symm
      · rw [upd_ne]
        · exact (hf b hb).1
        · have e : b = it ∨ b = p := by simpa using hb
          rcases e with rfl | rfl
          · exact Nat.ne_of_lt (Heap.lt_size h2)
          · exact Nat.ne_of_lt (Heap.lt_size h1)
    rcases h3 with ⟨e0, e1, e2, e3⟩ | ⟨j, ej, e1, hj⟩
    · subst e0
      have hrl : r ≤ us.length := by
        apply Nat.le_of_not_lt
        intro z
        rw [hlen, cmb_none r _ (by rw [List.length_range]; exact z)] at hi
        exact absurd hi (Nat.lt_irrefl 0)
      rw [if_neg (by omega)] at e1
      subst e1 e2
      have hks : (cmb r (List.range us.length))[0]? = some ks := by
        rw [cmb_head r _ (by rw [List.length_range]; exact hrl), range_take hrl, e3]
      refine nexts h2 (next0 h2 h1 hk fun h' ho => ?_)
      exact fin hks ho
    · subst ej e1
      have hi' : j + 1 < (cmb r (List.range us.length)).length := by rw [← hlen]; exact hi
      have hnx := hL0 hj
      rw [List.getElem?_eq_getElem hi'] at hnx
      have hks := List.getElem?_eq_getElem hi'
      exact nexts h2 (next1 h2 h1 hk (hkl hks) hnx fun h' ho => fin hks ho)
  · intro X hP hw hK hc i pins s σ H E I hf st hg
    subst hP hw hK
    have hi : i = (cmb r vs).length := hg
    obtain ⟨h1, st', old, ks, h2, hk, h3⟩ := st
    have hh := I.ok.hd hc
    have fin : ∀ {h' : Heap}, (∀ b o, b ≠ it → s.heap.get? b = some o → h'.get? b = some o) → (none : Option Value) = none ∧ Inv X pins σ H { s with heap := h' } := fun {h'} k =>
      ⟨rfl, I.turnedL (t' := s.toks) (ch := [it]) (fun b o hb e => k b o (fun z => hb (by simp [z])) e) fun b hb => hf b (by simp at hb ⊢; exact .inl hb)⟩
    rcases h3 with ⟨e0, e1, e2, e3⟩ | ⟨j, ej, e1, hj⟩
    · subst e0
      have hrl : r > us.length := by
        apply Nat.lt_of_not_le
        intro z
        have := cmb_head r (List.range us.length) (by rw [List.length_range]; exact z)
        have h4 := (List.getElem?_eq_some_iff.mp this).1
        omega
      rw [if_pos hrl] at e1
      subst e1
      exact end2 hh h2 fun h' k => fin k
    · subst ej e1
      have hnx := hL0 hj
      rw [List.getElem?_eq_none (by omega)] at hnx
      exact end1 hh h2 h1 hk hnx fun h' k => fin k
  · obtain ⟨h1, st', old, ks, h2, _⟩ := st
    exact pyIter_comb h2 h
end Cb
end Mi
namespace Mi
open PySem PySem.Spec L2
namespace Cb
theorem args_init3 (a b c : Value) : argsOk "object.__init__" ⟨[a, b, c], []⟩ := by
  unfold argsOk
  rw [signature?_of (id := "object.__init__") (n := ['_', '_', 't', 'i', 'n', 'i', '_', '_']) (o := ['t', 'c', 'e', 'j', 'b', 'o']) (by kernel_rfl) F.owner_object]
  kernel_rfl
theorem coll_seq {a : Addr} {us : List Value} {T : String} (hT : T = "list" ∨ T = "tuple") (hz : us.length ≤ sizeLine) : Coll (.ref a) (fun items => items = us) (fun h => ∃ o n, h.get? a = some o ∧ o.cls = .type T ∧ o.data = .seq us.toArray n) := by
  refine ⟨fun prog w A E s Q hh ⟨o, n, h1, h2, h3⟩ hQ => ?_⟩
  exact wpAny_collect_seq a hT h1 h2 h3 (fun h' hk => hQ us h' s.toks rfl hk) (by rw [List.size_toArray]; exact hz)
theorem coll_range {a : Addr} {lo hi : Int} {t u v : Tok} (h : RgOk lo hi) : Coll (.ref a) (fun items => Vals (rgV lo hi) items) (fun h => IsRange h a lo hi 1 t u v) := by
  refine ⟨fun prog w A E s Q hh h1 hQ => ?_⟩
  obtain ⟨b1, b2, b3, b4, b5⟩ := h
  exact collect_range (n := (hi - lo).toNat) hh h1 (small_one b1 b2 b3 b4) (PyProof.Rows.rangeSize_nat lo hi) b5 fun h' tk acc hk hi' => hQ _ h' tk (vals_rg hi') hk
theorem paired_map {α β γ δ : Type} {R : α → β → Prop} {S : γ → δ → Prop} {f : α → γ} {g : β → δ} (h : ∀ a b, R a b → S (f a) (g b)) : ∀ {l : List α} {m : List β}, Paired R l m → Paired S (l.map f) (m.map g)
  | _, _, .nil => .nil
  | _, _, .cons a t => .cons (h _ _ a) (paired_map h t)
theorem paired_app {α β : Type} {R : α → β → Prop} : ∀ {l l' : List α} {m m' : List β}, Paired R l m → Paired R l' m' → Paired R (l ++ l') (m ++ m')
  | _, _, _, _, .nil, q => q
  | _, _, _, _, .cons a t, q => .cons a (paired_app t q)
theorem rvs_cmb {K : Fg} {F : Hp} : ∀ (r : Nat) {xs : List D} {vs : List V}, Rvs K F xs vs → Paired (Rvs K F) (cmb r xs) (cmb r vs)
  | 0, xs, vs, h => by
    have e1 : cmb 0 xs = [[]] := by cases xs <;> rfl
    have e2 : cmb 0 vs = [[]] := by cases vs <;> rfl
    rw [e1, e2]
    exact .cons .nil .nil
  | r + 1, _, _, .nil => .nil
  | r + 1, _, _, .cons (d := d) (v := v) a t => by
    have h1 := rvs_cmb r t
    have h2 := rvs_cmb (r + 1) t
    exact paired_app (paired_map (fun _ _ x => .cons a x) h1) h2
theorem paired_at {α β : Type} {R : α → β → Prop} : ∀ {l : List α} {m : List β} {i : Nat} {y : β}, Paired R l m → m[i]? = some y → ∃ x, l[i]? = some x ∧ R x y
  | _, _, _, _, .nil, e => by simp at e
  | _, _, 0, _, .cons r _, e => by simp at e; subst e; exact ⟨_, rfl, r⟩
  | _, _, i + 1, y, .cons _ t, e => by
    obtain ⟨x, h1, h2⟩ := paired_at (i := i) t (by simpa using e)
    exact ⟨x, by simpa using h1, h2⟩
end Cb
open Cb
def combD (xs : List D) (r : Int) : List D := (cmb r.toNat xs).map .tuple
theorem combD_len (xs : List D) (r : Int) : (combD xs r).length = (cmb r.toNat xs).length := by
  unfold combD
  rw [List.length_map]
def combOk (xs : List D) (r : Int) : Prop := xs.length ≤ 1000 ∧ 0 ≤ r ∧ r ≤ 1000 ∧ (cmb r.toNat xs).length ≤ 16777216
def iComb (m m' : SE) : SI := fun env Q => m env fun d => m' env fun z => match z with
  | .int r => obL (seqOf d) fun xs => combOk xs r ∧ Q (combD xs r)
  | _ => False
def combK (n : Int) (Q : List D → Prop) (z : D) : Prop := match z with
  | .int r => combOk (dInts (rng 0 n)) r ∧ Q (combD (dInts (rng 0 n)) r)
  | _ => False
def iCombR (m m' : SE) : SI := fun env Q => m env fun d => match d with
  | .int n => 0 ≤ n ∧ m' env (combK n Q)
  | _ => False
theorem iComb_mono {X : Cx} {b : Bool} {a c : Expr} {ma mc : SE} (ha : ME X b a ma) (hc : ME X true c mc) (env : En) (P Q : List D → Prop) (k : ∀ d, P d → Q d) (h : iComb ma mc env P) : iComb ma mc env Q :=
  ha.mono _ _ _ (fun d hd => hc.mono _ _ _ (fun z hz => by cases z <;> first | exact obL_mono (fun xs h => ⟨h.1, k _ h.2⟩) hz | exact hz) hd) h
theorem iCombR_mono {X : Cx} {b : Bool} {a c : Expr} {ma mc : SE} (ha : ME X b a ma) (hc : ME X true c mc) (env : En) (P Q : List D → Prop) (k : ∀ d, P d → Q d) (h : iCombR ma mc env P) : iCombR ma mc env Q :=
  ha.mono _ _ _ (fun d hd => by
    cases d with
    | int n => exact ⟨hd.1, hc.mono _ _ _ (fun z hz => by cases z <;> first | exact ⟨hz.1, k _ hz.2⟩ | exact hz) hd.2⟩
    | _ => exact hd.elim) h
section
variable {X : Cx} {b : Bool} {a c tg : Expr} {ma mc : SE} {pos p : Pos} {x : Str}
/-- behind the call -/
theorem comb_fin {pins : List (Addr × Obj)} {σ : L2.St} {H F F0 H0 : Hp} {y : Cy} {dr : Option Addr} {env : En} {s : Shared} {R : It → Hp → Prop} {v : Value} {t : Tok} {r : Int} {xs : List D} {vs : List V} {Pi : List Value → Prop} {Bh : Heap → Prop} (hc : X.calm = true) (I : Inv X pins σ H s) (re : Re X.G y dr F env σ H) (s0 : Ex dr F0 H0 F H) (hB : Bh s.heap) (C : Coll v Pi Bh) (hPi : ∀ us, Pi us → Vals vs us) (rv : Rvs X.G F xs vs) (ok : combOk xs r)
    (hR : ∀ J H' F' G Y, Re X.G y dr F' env σ H' → Ex dr F0 H0 F' H' → (combD xs r).length ≤ sizeLine → Walk J (combD xs r).length G Y → GOk b dr F' H' G → YOk X.G F' (combD xs r) G Y → R J H') :
    wpAny (model X.prog X.w) X.A (call (.type "itertools.combinations") [v, .int r t]) (fun v s1 => wpAny (model X.prog X.w) X.A (pyIter v) (PIE X pins σ tg R) X.xe s1) X.xe s := by
  obtain ⟨k1, k2, k3, k4⟩ := ok
  obtain ⟨n, rfl⟩ : ∃ n : Nat, r = (n : Int) := ⟨r.toNat, by omega⟩
  have lv : ∀ us, Pi us → us.length = xs.length := fun us h => by rw [rv.length]; exact (hPi us h).length.symm
  refine callType_new called (by decide) (tc _ _) (nc _ _) (fun obj => args_init3 obj _ _) entry_new (meets_new C n t (by omega) fun us h => by rw [lv us h, sizeLine_eq]; omega) ⟨I.ok.hd hc, hB, fun us h' tk hp hk => ?_⟩
  have hz : us.length ≤ 1000 := by rw [lv us hp]; exact k1
  have I1 : Inv X pins σ H { s with heap := h', toks := tk } := I.kept hk
  have g1 : (h'.push (tupO us)).get? h'.objs.size = some (tupO us) := Heap.get?_push_size _ rfl
  have zs : (h'.push (tupO us)).objs.size = h'.objs.size + 1 := Heap.size_push ..
  have g2 : ((h'.push (tupO us)).push (combO h'.objs.size (if n > us.length then 2 else 0) .none (List.range n))).get? (h'.push (tupO us)).objs.size = some (combO h'.objs.size (if n > us.length then 2 else 0) .none (List.range n)) := Heap.get?_push_size _ rfl
  have hk2 : ∀ b o, h'.get? b = some o → ((h'.push (tupO us)).push (combO h'.objs.size (if n > us.length then 2 else 0) .none (List.range n))).get? b = some o := fun b o e => Heap.get?_push_of_some _ (Heap.get?_push_of_some _ e)
  have I2 : Inv X pins σ H { s with heap := (h'.push (tupO us)).push (combO h'.objs.size (if n > us.length then 2 else 0) .none (List.range n)), toks := tk } := I1.kept (t' := tk) hk2
  refine ⟨⟨_, g2, rfl⟩, ?_⟩
  refine pyIter_comb g2 ⟨(h'.push (tupO us)).objs.size, [(h'.push (tupO us)).objs.size, h'.objs.size], _, _, H, rfl, I2, turn_comb (hPi us hp) (by omega) hz, ⟨Heap.get?_push_of_some _ g1, _, _, _, g2, by rw [List.length_range]; omega, .inl ⟨rfl, rfl, rfl, rfl⟩⟩, fun q hq => ?_, ?_⟩
  · have e : q = (h'.push (tupO us)).objs.size ∨ q = h'.objs.size := by simpa using hq
    have hle : h'.objs.size ≤ q := by
      rcases e with z | z
      · rw [z, zs]; exact Nat.le_add_right _ _
      · rw [z]; exact Nat.le_refl _
    exact I1.fpOk hle (I1.hok.fresh hle)
  · have pr := rvs_cmb n rv
    have hl : (cmb n xs).length = (cmb n vs).length := pr.length
    refine hR _ H F (fun _ => True) (fun i H v H' => ∃ T ws o, TuO o ∧ v = .ref T ∧ H T = none ∧ H' = upd H T (.frz o (.tup ws)) ∧ (cmb n vs)[i]? = some ws) re s0 ?_ ?_ ⟨fun _ _ _ => trivial, fun _ _ _ => trivial⟩ ?_
    · rw [combD_len, sizeLine_eq]
      exact k4
    · rw [combD_len, Int.toNat_natCast, hl]
      exact ⟨fun i H hi _ => hi, fun H _ => rfl, fun i H x H' _ _ h => h⟩
    · rintro i H1 v H2 hi' _ ⟨T, ws, o, to, rfl, hT, rfl, hw⟩ y1 dr1 F1 env1 σ1 re1 s1
      obtain ⟨ds, h1, h2⟩ := paired_at pr hw
      refine ⟨_, re1.ex hT, re1.laid hT, ⟨.tuple ds, ?_, Rv.tupNew (re1.nF hT) to ?_ (h2.mono s1)⟩, upd_grow hT, fun D hD hne => ?_⟩
      · unfold combD
        rw [Int.toNat_natCast, List.getElem?_map, h1]
        rfl
      · have := cmb_mem_len n xs ds (List.mem_of_getElem? h1)
        rw [this, sizeLine_eq]
        omega
      · rw [upd_ne (fun z => hne (by rw [z]; exact hT))]
        exact hD
theorem mi_comb (hcm : X.calm = true) (hg : Gl X x) (hm : X.mg x = some (.type "itertools.combinations")) (ha : ME X true a ma) (hc : ME X true c mc) (hdb : (x == ("__debug__" : Str)) = false := by decide)
    (hs : starEach [a, c] X.env = (false, eval a X.env) :: starEach [c] X.env := by rfl) (hs2 : starEach [c] X.env = (false, eval c X.env) :: starEach [] X.env := by rfl) (hpl : (backTo pos (starEach [c] X.env)).any (·.1) = false := by rfl) :
    MI X b tg (.Call (.Name x p) [a, c] [] pos) (iComb ma mc) := by
  refine ⟨⟨fun pins s σ H R I h => ?_⟩, iComb_mono ha hc⟩
  obtain ⟨y, dr, F, env, re, hm2⟩ := h
  refine PyProof.Rows.Call_ (ld_glob I hg hm (PyProof.Rows.callWith_type1 (thn ((pa_cons ha.run (pa_cons hc.run pa_nil hs2) hs).run pos pins s σ H (fun vs H1 => ∃ y dr F' env' v r xs p1 us, vs = [v, .int r] ∧ Re X.G y dr F' env' σ H1 ∧ v = .ref p1 ∧ (SqL X.G H1 p1 us ∨ SqT X.G H1 p1 us) ∧ xs.length ≤ sizeLine ∧ Rvs X.G F' xs us ∧ combOk xs r ∧
      ∀ J H' F2 G Y, Re X.G y dr F2 env' σ H' → Ex dr F' H1 F2 H' → (combD xs r).length ≤ sizeLine → Walk J (combD xs r).length G Y → GOk b dr F2 H' G → YOk X.G F2 (combD xs r) G Y → R J H') I ?_) fun us s1 ⟨vs, H1, I1, r1, q1⟩ => ?_) hs hpl) hdb)
  · refine ⟨y, dr, F, env, re, ha.mono _ _ _ (fun d hd v H1 F1 r1 s1 w1 => ?_) hm2⟩
    refine ⟨y, dr, F1, env, r1, hc.mono _ _ _ (fun z hz v2 H2 F2 r2 s2 w2 => ?_) hd⟩
    cases z with
    | int r =>
      cases q : seqOf d with
      | none => simp only [q] at hz; exact hz.elim
      | some xs =>
        simp only [q] at hz
        obtain ⟨ok, hz⟩ := hz
        obtain ⟨p1, us, rfl, e1, z1, rv⟩ := seq_of r2 (w1.mono s2) q
        have := w2.int
        subst this
        exact ⟨y, dr, F2, env, _, r, xs, p1, us, rfl, r2, rfl, e1, z1, rv, ok, fun J H' F3 G Y r3 s3 => hz J H' F3 G Y r3 ((s1.trans s2).trans s3)⟩
    | _ => exact hz.elim
  · obtain ⟨y, dr, F, env, v, r, xs, p1, ws, rfl, re1, rfl, e1, z1, rv, ok, hR⟩ := q1
    cases r1 with
    | cons ra rr =>
      cases rr with
      | cons rb rr =>
        cases rr
        cases ra
        obtain ⟨t, rfl⟩ := rb
        rcases e1 with e1 | e1
        · obtain ⟨its, rvv, pl, hz⟩ := I1.list e1
          refine comb_fin (Bh := fun h => ∃ o n, h.get? p1 = some o ∧ o.cls = .type "list" ∧ o.data = .seq its.toArray n) hcm I1 re1 Ex.refl ?_ (coll_seq (.inl rfl) (by rw [← rvv.length]; exact hz)) (fun us h => by rw [h]; exact rvv) rv ok hR
          obtain ⟨o, h1, h2, n, h3⟩ := pl.isList
          exact ⟨o, n, h1, h2, h3⟩
        · obtain ⟨its, rvv, pl, hz⟩ := I1.tuple e1
          refine comb_fin (Bh := fun h => ∃ o n, h.get? p1 = some o ∧ o.cls = .type "tuple" ∧ o.data = .seq its.toArray n) hcm I1 re1 Ex.refl ?_ (coll_seq (.inr rfl) (by rw [← rvv.length]; exact hz)) (fun us h => by rw [h]; exact rvv) rv ok hR
          obtain ⟨o, h1, h2, n, h3⟩ := pl
          exact ⟨o, n, h1, h2, h3⟩
theorem prg_pin {p2 pos2 : Pos} (hg : Gl X "range") (hm : X.mg "range" = none) (ha : PE X a (lE X.G true ma)) (na : starEach [a] X.env = (false, eval a X.env) :: starEach [] X.env) {pins : List (Addr × Obj)} {s : Shared} {σ : L2.St} {H : Hp} {Q : Int → Hp → Prop} (I : Inv X pins σ H s)
    (h : lE X.G true ma σ H fun x H1 => ∃ n, x = .int n ∧ Q n H1) :
    wpAny (model X.prog X.w) X.A (eval (.Call (.Name "range" p2) [a] [] pos2) X.env) (fun x s' => ∃ q n t u v H' ob, x = .ref q ∧ IsRange s'.heap q 0 n 1 t u v ∧ s'.heap.get? q = some ob ∧ Inv X ((q, ob) :: pins) σ H' s' ∧ Q n H') X.xe s := by
  refine PyProof.Rows.Call_ (ld_blt I hg hm PyProof.Rows.boot_range (PyProof.Rows.callWith_type1 (one_arg ha I h (fun v s2 x H2 I2 r q => ?_) na) na))
  obtain ⟨n, rfl, q⟩ := q
  obtain ⟨t, rfl⟩ := r
  refine call_range_1 ?_
  have g := IsRange.new s2.heap 0 n 1 0 t 0
  have I3 := I2.kept (t' := s2.toks) fun b u e => Heap.get?_push_of_some { cls := .type "range", data := .fields #[.int 0 0, .int n t, .int 1 0] } e
  have fp := I2.fpOk (Nat.le_refl _) (I2.hok.fresh (Nat.le_refl _))
  refine ⟨_, n, _, _, _, H2, _, rfl, IsRange.new _ _ _ _ _ _ _, IsRange.new _ _ _ _ _ _ _, ?_, q⟩
  refine Inv.pins_of (pins := pins) (I2.kept fun b u e => Heap.get?_push_of_some _ e) fun p hp => ?_
  rcases List.mem_cons.mp hp with rfl | hp
  · exact ⟨IsRange.new _ _ _ _ _ _ _, fp.1, fp.2.1, fp.2.2.1, fun v e => nomatch e⟩
  · obtain ⟨e1, e2, e3, e4, e5⟩ := I2.pin p (List.mem_append_right _ hp)
    exact ⟨Heap.get?_push_of_some _ e1, e2, e3, e4, e5⟩
theorem mi_combR {p2 pos2 : Pos} (hcm : X.calm = true) (hg : Gl X x) (hm : X.mg x = some (.type "itertools.combinations")) (hg2 : Gl X "range") (hm2 : X.mg "range" = none) (ha : ME X true a ma) (hc : ME X true c mc) (hdb : (x == ("__debug__" : Str)) = false := by decide)
    (na : starEach [a] X.env = (false, eval a X.env) :: starEach [] X.env := by rfl)
    (hs : starEach [.Call (.Name "range" p2) [a] [] pos2, c] X.env = (false, eval (.Call (.Name "range" p2) [a] [] pos2) X.env) :: starEach [c] X.env := by rfl) (hs2 : starEach [c] X.env = (false, eval c X.env) :: starEach [] X.env := by rfl) (hpl : (backTo pos (starEach [c] X.env)).any (·.1) = false := by rfl) :
    MI X b tg (.Call (.Name x p) [.Call (.Name "range" p2) [a] [] pos2, c] [] pos) (iCombR ma mc) := by
  refine ⟨⟨fun pins s σ H R I h => ?_⟩, iCombR_mono ha hc⟩
  obtain ⟨y, dr, F, env, re, hm3⟩ := h
  refine PyProof.Rows.Call_ (ld_glob I hg hm (PyProof.Rows.callWith_type1 (PyProof.Rows.args_cons (thn (prg_pin hg2 hm2 ha.run na (Q := fun hi H1 => 0 ≤ hi ∧ lE X.G true mc σ H1 fun v2 H2 => ∃ y dr F2 env r, v2 = .int r ∧ Re X.G y dr F2 env σ H2 ∧ combOk (dInts (rng 0 hi)) r ∧
      ∀ J H' F3 G Y, Re X.G y dr F3 env σ H' → Ex dr F2 H2 F3 H' → (combD (dInts (rng 0 hi)) r).length ≤ sizeLine → Walk J (combD (dInts (rng 0 hi)) r).length G Y → GOk b dr F3 H' G → YOk X.G F3 (combD (dInts (rng 0 hi)) r) G Y → R J H') I ?_) fun v1 s1 ⟨q, hi, t1, t2, t3, H1, ob, ex, hr, hob, I1, q1⟩ => ?_) hs) hs hpl) hdb)
  · refine ⟨y, dr, F, env, re, ha.mono _ _ _ (fun d hd v H1 F1 r1 s1 w1 => ?_) hm3⟩
    cases d with
    | int n =>
      refine ⟨n, w1.int, hd.1, y, dr, F1, env, r1, hc.mono _ _ _ (fun z hz v2 H2 F2 r2 s2 w2 => ?_) hd.2⟩
      cases z with
      | int r => exact ⟨y, dr, F2, env, r, w2.int, r2, hz.1, fun J H' F3 G Y r3 s3 => hz.2 J H' F3 G Y r3 ((s1.trans s2).trans s3)⟩
      | _ => exact hz.elim
    | _ => exact hd.elim
  · obtain ⟨h0, q1⟩ := q1
    subst ex
    refine one_arg hc.run I1 q1 (fun u s2 x2 H2 I2 rr q2 => ?_) hs2
    obtain ⟨y, dr, F2, env, r, e2, re2, ok, hR⟩ := q2
    subst e2
    obtain ⟨t, rfl⟩ := rr
    have hlen : hi ≤ 1000 := by
      have := ok.1
      rw [rng_len] at this
      omega
    have hq := I2.pin (q, ob) (List.mem_append_right _ List.mem_cons_self)
    have hr2 : IsRange s2.heap q 0 hi 1 t1 t2 t3 := by
      have e : some ob = some _ := hob.symm.trans hr
      cases e
      exact hq.1
    have I3 : Inv X pins σ H2 s2 := I2.pins_of fun p hp => I2.pin p (List.mem_append_right _ (List.mem_cons_of_mem _ hp))
    have rv : Rvs X.G F2 (dInts (rng 0 hi)) (rgV 0 hi) := by
      rw [rgV_eq]
      exact Rvs.ofInts _
    exact comb_fin (Bh := fun h => IsRange h q 0 hi 1 t1 t2 t3) hcm I3 re2 Ex.refl hr2 (coll_range ⟨by omega, by omega, by omega, by omega, by omega⟩) (fun us h => h) rv ok hR
end
@[simp] theorem u_iComb {m m' : SE} {env : En} {Q : List D → Prop} : iComb m m' env Q = (m env fun d => m' env fun z => match z with
  | .int r => obL (seqOf d) fun xs => combOk xs r ∧ Q (combD xs r)
  | _ => False) := rfl
@[simp] theorem u_iCombR {m m' : SE} {env : En} {Q : List D → Prop} : iCombR m m' env Q = (m env fun d => match d with
  | .int n => 0 ≤ n ∧ m' env (combK n Q)
  | _ => False) := rfl
@[simp] theorem combK_i {n r : Int} {Q : List D → Prop} : combK n Q (.int r) = (combOk (dInts (rng 0 n)) r ∧ Q (combD (dInts (rng 0 n)) r)) := rfl
theorem combOk_i {xs : List D} {r : Int} (h1 : xs.length ≤ 20) (h2 : 0 ≤ r) (h3 : r ≤ 1000) : combOk xs r := by
  refine ⟨by omega, h2, h3, Nat.le_trans (cmb_len _ _) (Nat.le_trans (Nat.pow_le_pow_right (by decide) h1) (by decide))⟩
end Mi

namespace Mi
open PySem PySem.Spec L2
/-! ### orders of coded things -/
structure Lo {α : Type} [DecidableEq α] (enc : α → D) (lt : α → α → Bool) : Prop where
  lt_ : ∀ a b, PySem.W.dataLt (enc a) (enc b) = lt a b
  al : ∀ a b, PySem.W.alike (enc a) (enc b) = true
  ev : ∀ a b, PyData.eqv (enc a) (enc b) = decide (a = b)
  as : ∀ a b, lt a b = true → lt b a = false
  tr : ∀ a b c, lt b a = false → lt c b = false → lt c a = false
  anti : ∀ a b, lt a b = false → lt b a = false → a = b
section
variable {α β γ : Type} [DecidableEq α] [DecidableEq β] [DecidableEq γ] {enc : α → D} {lt : α → α → Bool} {enc2 : β → D} {lt2 : β → β → Bool} {enc3 : γ → D} {lt3 : γ → γ → Bool}
theorem Lo.irr (h : Lo enc lt) (a : α) : lt a a = false := by
  cases q : lt a a with
  | false => rfl
  | true => have := h.as a a q; rw [q] at this; cases this
theorem Lo.trT (h : Lo enc lt) {a b c : α} (h1 : lt a b = true) (h2 : lt b c = true) : lt a c = true := by
  cases q : lt a c with
  | true => rfl
  | false =>
    have e := h.anti a c q (h.tr a b c (h.as _ _ h1) (h.as _ _ h2))
    subst e
    rw [h.as _ _ h1] at h2
    cases h2
def ltI (a b : Int) : Bool := decide (a < b)
theorem lo_int : Lo PyData.int ltI where
  lt_ := fun a b => PySem.W.dataLt_int a b
  al := fun a b => by simp [PySem.W.alike]
  ev := fun a b => by
    show (a == b) = _
    by_cases c : a = b <;> simp [c]
  as := fun a b h => by unfold ltI at *; simp at *; omega
  tr := fun a b c h1 h2 => by unfold ltI at *; simp at *; omega
  anti := fun a b h1 h2 => by unfold ltI at *; simp at *; omega
theorem lo_str : Lo PyData.str ltS where
  lt_ := fun a b => PySem.W.dataLt_str a b
  al := fun a b => by simp [PySem.W.alike]
  ev := fun a b => cod_str.eq a b
  as := fun a b h => by
    unfold ltS at *
    rw [decide_eq_true_eq] at h
    rw [decide_eq_false_iff_not]
    exact fun z => List.lt_irrefl _ (List.lt_trans h z)
  tr := fun a b c h1 h2 => by
    unfold ltS at *
    rw [decide_eq_false_iff_not] at *
    exact List.not_lt.mpr (List.le_trans (List.not_lt.mp h1) (List.not_lt.mp h2))
  anti := fun a b h1 h2 => by
    unfold ltS at *
    rw [decide_eq_false_iff_not] at *
    exact cps_inj (List.le_antisymm (List.not_lt.mp h2) (List.not_lt.mp h1))
/-! pairs, triples, rows -/
def ltP (l1 : α → α → Bool) (l2 : β → β → Bool) (p q : α × β) : Bool := if p.1 = q.1 then l2 p.2 q.2 else l1 p.1 q.1
theorem lo_pairO (h : Lo enc lt) (h2 : Lo enc2 lt2) : (∀ a b : α × β, ltP lt lt2 a b = true → ltP lt lt2 b a = false) ∧ (∀ a b c : α × β, ltP lt lt2 b a = false → ltP lt lt2 c b = false → ltP lt lt2 c a = false) ∧ (∀ a b : α × β, ltP lt lt2 a b = false → ltP lt lt2 b a = false → a = b) := by
  refine ⟨fun a b h1 => ?_, fun a b c h1 h3 => ?_, fun a b h1 h3 => ?_⟩
  · unfold ltP at *
    by_cases c : a.1 = b.1
    · rw [if_pos c] at h1
      rw [if_pos c.symm]
      exact h2.as _ _ h1
    · rw [if_neg c] at h1
      rw [if_neg (fun z => c z.symm)]
      exact h.as _ _ h1
  · unfold ltP at *
    by_cases c1 : b.1 = a.1
    · by_cases c2 : c.1 = b.1
      · rw [if_pos c1] at h1
        rw [if_pos c2] at h3
        rw [if_pos (c2.trans c1)]
        exact h2.tr _ _ _ h1 h3
      · rw [if_neg c2] at h3
        rw [if_neg (fun z => c2 (z.trans c1.symm)), ← c1]
        exact h3
    · rw [if_neg c1] at h1
      by_cases c2 : c.1 = b.1
      · rw [if_neg (fun z => c1 (c2.symm.trans z)), c2]
        exact h1
      · rw [if_neg c2] at h3
        have h4 := h.tr _ _ _ h1 h3
        rw [if_neg]
        · exact h4
        · intro z
          rw [z] at h3
          exact c1 (h.anti _ _ h1 h3)
  · unfold ltP at *
    by_cases c : a.1 = b.1
    · rw [if_pos c] at h1
      rw [if_pos c.symm] at h3
      exact Prod.ext c (h2.anti _ _ h1 h3)
    · rw [if_neg c] at h1
      rw [if_neg (fun z => c z.symm)] at h3
      exact absurd (h.anti _ _ h1 h3) c
theorem lo_pair (h : Lo enc lt) (h2 : Lo enc2 lt2) : Lo (fun p : α × β => PyData.tuple [enc p.1, enc2 p.2]) (ltP lt lt2) where
  lt_ := fun a b => by
    rw [PySem.W.dataLt_pair (h.al _ _) (h2.al _ _), h.ev, h2.ev, h.lt_, h2.lt_]
    unfold ltP
    by_cases c : a.1 = b.1
    · by_cases c2 : a.2 = b.2
      · simp [c, c2, h2.irr]
      · simp [c, c2]
    · simp [c]
  al := fun a b => by simp [PySem.W.alike, PySem.W.alikeAll, h.al, h2.al]
  ev := fun a b => (Cod.pair ⟨h.ev⟩ ⟨h2.ev⟩).eq a b
  as := (lo_pairO h h2).1
  tr := (lo_pairO h h2).2.1
  anti := (lo_pairO h h2).2.2
theorem lo_trip (h : Lo enc lt) (h2 : Lo enc2 lt2) (h3 : Lo enc3 lt3) : Lo (fun p : α × β × γ => PyData.tuple [enc p.1, enc2 p.2.1, enc3 p.2.2]) (ltP lt (ltP lt2 lt3)) where
  lt_ := fun a b => by
    have e : PyProof.Rows.lexLt PyProof.Rows.itemOrd (PySem.W.keyToksAll []) (PySem.W.keyToksAll []) = false := PyProof.Rows.lex_irrefl _
    rw [PySem.W.dataLt_tuple, PySem.W.dataLt_cons (h.al _ _), PySem.W.dataLt_cons (h2.al _ _), PySem.W.dataLt_cons (h3.al _ _), h.ev, h2.ev, h3.ev, h.lt_, h2.lt_, h3.lt_, e]
    unfold ltP
    by_cases c : a.1 = b.1
    · by_cases c2 : a.2.1 = b.2.1
      · by_cases c3 : a.2.2 = b.2.2
        · simp [c, c2, c3, h3.irr]
        · simp [c, c2, c3]
      · simp [c, c2]
    · simp [c]
  al := fun a b => by simp [PySem.W.alike, PySem.W.alikeAll, h.al, h2.al, h3.al]
  ev := fun a b => (Cod.trip ⟨h.ev⟩ ⟨h2.ev⟩ ⟨h3.ev⟩).eq a b
  as := (lo_pairO h (lo_pair h2 h3)).1
  tr := (lo_pairO h (lo_pair h2 h3)).2.1
  anti := (lo_pairO h (lo_pair h2 h3)).2.2
def lexG (lt : α → α → Bool) : List α → List α → Bool
  | [], [] => false
  | [], _ :: _ => true
  | _ :: _, [] => false
  | x :: xs, y :: ys => if x = y then lexG lt xs ys else lt x y
theorem alike_row (h : Lo enc lt) : ∀ xs ys : List α, PySem.W.alikeAll (xs.map enc) (ys.map enc) = true
  | [], _ => by simp [PySem.W.alikeAll]
  | _ :: _, [] => by simp [PySem.W.alikeAll]
  | x :: xs, y :: ys => by
    show PySem.W.alikeAll (enc x :: xs.map enc) (enc y :: ys.map enc) = true
    rw [PySem.W.alikeAll, alike_row h xs ys, h.al]
    rfl
theorem row_lt (h : Lo enc lt) : ∀ xs ys : List α, PyProof.Rows.lexLt PyProof.Rows.itemOrd (PySem.W.keyToksAll (xs.map enc)) (PySem.W.keyToksAll (ys.map enc)) = lexG lt xs ys
  | [], [] => PyProof.Rows.lex_irrefl _
  | [], y :: ys => by
    show PyProof.Rows.lexLt PyProof.Rows.itemOrd (PySem.W.keyToksAll []) (PySem.W.keyToksAll (enc y :: ys.map enc)) = true
    rw [PySem.W.toks_all_cons]
    simp only [PySem.W.keyToksAll]
    rw [PyProof.Rows.lex_diff (O := PyProof.Rows.itemOrd) (by simp)]
    rfl
  | x :: xs, [] => by
    show PyProof.Rows.lexLt PyProof.Rows.itemOrd (PySem.W.keyToksAll (enc x :: xs.map enc)) (PySem.W.keyToksAll []) = false
    rw [PySem.W.toks_all_cons]
    simp only [PySem.W.keyToksAll]
    rw [PyProof.Rows.lex_diff (O := PyProof.Rows.itemOrd) (by simp)]
    rfl
  | x :: xs, y :: ys => by
    show PyProof.Rows.lexLt PyProof.Rows.itemOrd (PySem.W.keyToksAll (enc x :: xs.map enc)) (PySem.W.keyToksAll (enc y :: ys.map enc)) = _
    rw [PySem.W.dataLt_cons (h.al _ _), h.ev, h.lt_, row_lt h xs ys]
    by_cases c : x = y <;> simp [lexG, c]
theorem lexG_as (h : Lo enc lt) : ∀ a b : List α, lexG lt a b = true → lexG lt b a = false
  | [], [], e => by cases e
  | [], _ :: _, _ => rfl
  | _ :: _, [], e => by cases e
  | x :: xs, y :: ys, e => by
    unfold lexG at *
    by_cases c : x = y
    · rw [if_pos c] at e
      rw [if_pos c.symm]
      exact lexG_as h xs ys e
    · rw [if_neg c] at e
      rw [if_neg (fun z => c z.symm)]
      exact h.as _ _ e
theorem lexG_tr (h : Lo enc lt) : ∀ a b c : List α, lexG lt b a = false → lexG lt c b = false → lexG lt c a = false
  | [], b, c, _, _ => by cases c <;> rfl
  | x :: xs, [], c, e, _ => by cases e
  | x :: xs, y :: ys, [], _, e => by cases e
  | x :: xs, y :: ys, z :: zs, h1, h3 => by
    unfold lexG at *
    by_cases c1 : y = x
    · by_cases c2 : z = y
      · rw [if_pos c1] at h1
        rw [if_pos c2] at h3
        rw [if_pos (c2.trans c1)]
        exact lexG_tr h xs ys zs h1 h3
      · rw [if_neg c2] at h3
        rw [if_neg (fun q => c2 (q.trans c1.symm)), ← c1]
        exact h3
    · rw [if_neg c1] at h1
      by_cases c2 : z = y
      · rw [if_neg (fun q => c1 (c2.symm.trans q)), c2]
        exact h1
      · rw [if_neg c2] at h3
        have h4 := h.tr _ _ _ h1 h3
        rw [if_neg]
        · exact h4
        · intro q
          rw [q] at h3
          exact c1 (h.anti _ _ h1 h3)
theorem lexG_anti (h : Lo enc lt) : ∀ a b : List α, lexG lt a b = false → lexG lt b a = false → a = b
  | [], [], _, _ => rfl
  | [], _ :: _, e, _ => by cases e
  | _ :: _, [], _, e => by cases e
  | x :: xs, y :: ys, h1, h3 => by
    unfold lexG at *
    by_cases c : x = y
    · rw [if_pos c] at h1
      rw [if_pos c.symm] at h3
      rw [c, lexG_anti h xs ys h1 h3]
    · rw [if_neg c] at h1
      rw [if_neg (fun z => c z.symm)] at h3
      exact absurd (h.anti _ _ h1 h3) c
theorem lo_row (h : Lo enc lt) : Lo (fun xs : List α => PyData.tuple (xs.map enc)) (lexG lt) where
  lt_ := fun a b => by rw [PySem.W.dataLt_tuple]; exact row_lt h a b
  al := fun a b => by
    show PySem.W.alike (.tuple (a.map enc)) (.tuple (b.map enc)) = true
    rw [PySem.W.alike]
    exact alike_row h a b
  ev := fun a b => (Cod.tup ⟨h.ev⟩).eq a b
  as := lexG_as h
  tr := lexG_tr h
  anti := lexG_anti h
theorem Lo.comap (h : Lo enc lt) {f : β → α} (hf : ∀ a b, f a = f b → a = b) : Lo (fun b => enc (f b)) (fun a b => lt (f a) (f b)) where
  lt_ := fun a b => h.lt_ _ _
  al := fun a b => h.al _ _
  ev := fun a b => by
    rw [h.ev]
    by_cases c : a = b
    · simp [c]
    · rw [decide_eq_false c, decide_eq_false (fun z => c (hf a b z))]
  as := fun a b => h.as _ _
  tr := fun a b c => h.tr _ _ _
  anti := fun a b h1 h2 => hf _ _ (h.anti _ _ h1 h2)
/-- how many, and the row -/
def encN (enc : α → D) (xs : List α) : D := .tuple [.int xs.length, .tuple (xs.map enc)]
def ltL (lt : α → α → Bool) (a b : List α) : Bool := ltP ltI (lexG lt) ((a.length : Int), a) ((b.length : Int), b)
theorem lo_N (h : Lo enc lt) : Lo (encN enc) (ltL lt) := (lo_pair lo_int (lo_row h)).comap (f := fun xs : List α => ((xs.length : Int), xs)) fun a b e => (Prod.mk.inj e).2
/-! ### sorted, the least -/
def srtL (lt : α → α → Bool) (xs : List α) : List α := xs.mergeSort fun a b => !lt b a
theorem Lo.srt (h : Lo enc lt) (xs : List α) : srt (xs.map enc) = (srtL lt xs).map enc := by
  rw [srt_map]
  have e : (fun a b : α => leD' (enc a) (enc b)) = fun a b => !lt b a := by
    funext a b
    unfold leD'
    rw [PySem.W.dataLe_eq, ← h.lt_]
    rfl
  rw [e]
  rfl
theorem srtL_mem {xs : List α} {a : α} : a ∈ srtL lt xs ↔ a ∈ xs := List.mem_mergeSort
theorem srtL_len (xs : List α) : (srtL lt xs).length = xs.length := List.length_mergeSort _
theorem srtL_perm (xs : List α) : (srtL lt xs).Perm xs := List.mergeSort_perm _ _
theorem Lo.total (h : Lo enc lt) (a b : α) : (!lt b a || !lt a b) = true := by
  cases q : lt a b with
  | false => simp
  | true => simp [h.as a b q]
theorem Lo.trB (h : Lo enc lt) (a b c : α) (h1 : (!lt b a) = true) (h2 : (!lt c b) = true) : (!lt c a) = true := by
  simp at *
  exact h.tr a b c h1 h2
theorem Lo.so (h : Lo enc lt) (xs : List α) : (srtL lt xs).Pairwise fun a b => lt b a = false := by
  have := List.pairwise_mergeSort (le := fun a b : α => !lt b a) h.trB (fun a b => h.total a b) xs
  exact this.imp fun h => by simpa using h
theorem Lo.uniq (h : Lo enc lt) : ∀ {xs ys : List α}, xs.Perm ys → xs.Pairwise (fun a b => lt b a = false) → ys.Pairwise (fun a b => lt b a = false) → xs = ys
  | [], ys, p, _, _ => by
    have := p.length_eq
    exact (List.eq_nil_of_length_eq_zero (by simpa using this.symm)).symm
  | x :: xs, [], p, _, _ => by
    have := p.length_eq
    simp at this
  | x :: xs, y :: ys, p, s1, s2 => by
    rw [List.pairwise_cons] at s1 s2
    have e : x = y := by
      have hx : x ∈ y :: ys := p.subset List.mem_cons_self
      have hy : y ∈ x :: xs := p.symm.subset List.mem_cons_self
      rcases List.mem_cons.mp hx with hx | hx
      · exact hx
      · rcases List.mem_cons.mp hy with hy | hy
        · exact hy.symm
        · exact h.anti x y (s2.1 x hx) (s1.1 y hy)
    subst e
    rw [Lo.uniq h (List.Perm.cons_inv p) s1.2 s2.2]
theorem Lo.srt_of (h : Lo enc lt) {xs ys : List α} (p : ys.Perm xs) (s : ys.Pairwise fun a b => lt b a = false) : srtL lt xs = ys := (h.uniq (p.trans (srtL_perm xs).symm) s (h.so xs)).symm
theorem Lo.head (h : Lo enc lt) {xs : List α} {r : α} (hr : r ∈ xs) (hm : ∀ t ∈ xs, lt t r = false) : ∃ rest, srtL lt xs = r :: rest := by
  have hs := h.so xs
  cases e : srtL lt xs with
  | nil => have := srtL_mem (lt := lt) |>.mpr hr; rw [e] at this; cases this
  | cons a rest =>
    rw [e, List.pairwise_cons] at hs
    have ha : a ∈ xs := srtL_mem.mp (by rw [e]; simp)
    have hr2 : r ∈ a :: rest := by rw [← e]; exact srtL_mem.mpr hr
    rcases List.mem_cons.mp hr2 with z | z
    · exact ⟨rest, by rw [z]⟩
    · exact ⟨rest, by rw [h.anti a r (hm a ha) (hs.1 r z)]⟩
theorem Lo.best (h : Lo enc lt) {xs : List α} {r : α} (hr : r ∈ xs) (hm : ∀ t ∈ xs, lt t r = false) : bestD false (xs.map enc) = enc r := by
  cases xs with
  | nil => cases hr
  | cons x xs =>
    show PySem.W.minD (enc x) (xs.map enc) = enc r
    rw [min_enc enc lt h.lt_]
    obtain ⟨h1, h2⟩ := fold_best lt h.tr h.as xs x
    rw [h.anti _ _ (h2 r hr) (hm _ h1) |>.symm]
theorem max_enc (h : Lo enc lt) : ∀ (xs : List α) (x : α), PySem.W.maxD (enc x) (xs.map enc) = enc (xs.foldl (fun a y => if lt a y then y else a) x)
  | [], x => rfl
  | z :: r, x => by
    show PySem.W.maxD (if PySem.W.dataLt (enc x) (enc z) = true then enc z else enc x) (r.map enc) = _
    rw [h.lt_]
    cases c : lt x z with
    | true => rw [if_pos rfl, max_enc h r z, List.foldl_cons, c]; rfl
    | false => rw [if_neg (by simp), max_enc h r x, List.foldl_cons, c]; rfl
theorem Lo.bestT (h : Lo enc lt) {xs : List α} {r : α} (hr : r ∈ xs) (hm : ∀ t ∈ xs, lt r t = false) : bestD true (xs.map enc) = enc r := by
  cases xs with
  | nil => cases hr
  | cons x xs =>
    show PySem.W.maxD (enc x) (xs.map enc) = enc r
    rw [max_enc h]
    obtain ⟨h1, h2⟩ := fold_best (fun a b => lt b a) (fun a b c h1 h2 => h.tr c b a h2 h1) (fun a b h1 => h.as b a h1) xs x
    rw [h.anti _ _ (hm _ h1) (h2 r hr)]
theorem Lo.alD (h : Lo enc lt) (xs : List α) : PySem.W.AllAlike (xs.map enc) := PySem.W.AllAlike.of h.al
/-- written things that may be sorted: all flat; pairs and such, or no tuples at all -/
theorem Lo.srtOk (h : Lo enc lt) {xs : List α} {n : Nat} (hf : ∀ x ∈ xs, flatD n (enc x) = true) (so : PySem.W.Sortable (xs.map enc)) (hn : n ≤ 60 := by decide) : SrtOk (xs.map enc) where
  lay := fun d hd => by
    obtain ⟨x, hx, rfl⟩ := List.mem_map.mp hd
    exact (flat_lay n _ (hf x hx)).1
  al := h.alD xs
  so := so
  dp := fun d hd => by
    obtain ⟨x, hx, rfl⟩ := List.mem_map.mp hd
    exact Nat.le_trans (flat_lay n _ (hf x hx)).2 hn
theorem Lo.bestOk (h : Lo enc lt) {xs : List α} {n : Nat} (ne : xs ≠ []) (hf : ∀ x ∈ xs, flatD n (enc x) = true) (hnn : ∀ x ∈ xs, enc x ≠ .none) (hn : n ≤ 60 := by decide) : BestOk (xs.map enc) where
  ne := by simpa using ne
  lay := fun d hd => by
    obtain ⟨x, hx, rfl⟩ := List.mem_map.mp hd
    exact (flat_lay n _ (hf x hx)).1
  al := ⟨h.alD xs, fun d hd => by
    obtain ⟨x, hx, rfl⟩ := List.mem_map.mp hd
    exact hnn x hx⟩
  dp := fun d hd => by
    obtain ⟨x, hx, rfl⟩ := List.mem_map.mp hd
    exact Nat.le_trans (flat_lay n _ (hf x hx)).2 hn
theorem Lo.best2 (h : Lo enc lt) {x z : α} {n : Nat} (hx : flatD n (enc x) = true) (hz : flatD n (enc z) = true) (nx : enc x ≠ .none) (nz : enc z ≠ .none) (hn : n ≤ 60 := by decide) : min2B (enc x) (enc z) = some (enc (if lt z x = true then z else x)) := by
  rw [min2B_eq ⟨(flat_lay n _ hx).1, (flat_lay n _ hz).1, ⟨fun a ha b hb => ?_, fun a ha => ?_⟩, Nat.le_trans (flat_lay n _ hx).2 hn, Nat.le_trans (flat_lay n _ hz).2 hn⟩, h.lt_]
  · cases lt z x <;> rfl
  · have ha' : a = enc x ∨ a = enc z := by simpa using ha
    have hb' : b = enc x ∨ b = enc z := by simpa using hb
    rcases ha' with rfl | rfl <;> rcases hb' with rfl | rfl <;> exact h.al _ _
  · have ha' : a = enc x ∨ a = enc z := by simpa using ha
    rcases ha' with rfl | rfl
    · exact nx
    · exact nz
/-! ### sets as rows -/
theorem cmbG_mem : ∀ (r : Nat) (xs ks : List α), ks ∈ Cb.cmb r xs ↔ ks.Sublist xs ∧ ks.length = r
  | 0, xs, ks => by
    have e : Cb.cmb 0 xs = [[]] := by cases xs <;> rfl
    rw [e, List.mem_singleton]
    constructor
    · rintro rfl
      exact ⟨List.nil_sublist _, rfl⟩
    · exact fun h => List.eq_nil_of_length_eq_zero h.2
  | r + 1, [], ks => by
    constructor
    · intro h; cases h
    · rintro ⟨h1, h2⟩
      rw [List.sublist_nil.mp h1] at h2
      cases h2
  | r + 1, x :: xs, ks => by
    show ks ∈ (Cb.cmb r xs).map (x :: ·) ++ Cb.cmb (r + 1) xs ↔ _
    rw [List.mem_append, List.mem_map, cmbG_mem (r + 1) xs ks]
    constructor
    · rintro (⟨t, h, rfl⟩ | ⟨h1, h2⟩)
      · obtain ⟨h1, h2⟩ := (cmbG_mem r xs t).mp h
        exact ⟨h1.cons_cons x, by rw [List.length_cons, h2]⟩
      · exact ⟨h1.cons x, h2⟩
    · rintro ⟨h1, h2⟩
      cases h1 with
      | cons _ h => exact .inr ⟨h, h2⟩
      | cons_cons _ h => exact .inl ⟨_, (cmbG_mem r xs _).mpr ⟨h, by simpa using h2⟩, rfl⟩
theorem cmbG_lex (h : Lo enc lt) : ∀ (r : Nat) {xs : List α}, xs.Pairwise (fun a b => lt a b = true) → (Cb.cmb r xs).Pairwise fun a b => lexG lt a b = true
  | 0, xs, _ => by
    have e : Cb.cmb 0 xs = [[]] := by cases xs <;> rfl
    rw [e]
    simp
  | r + 1, [], _ => .nil
  | r + 1, x :: xs, hs => by
    rw [List.pairwise_cons] at hs
    show ((Cb.cmb r xs).map (x :: ·) ++ Cb.cmb (r + 1) xs).Pairwise _
    rw [List.pairwise_append, List.pairwise_map]
    refine ⟨(cmbG_lex h r hs.2).imp fun q => ?_, cmbG_lex h (r + 1) hs.2, fun a ha b hb => ?_⟩
    · unfold lexG
      rw [if_pos rfl]
      exact q
    · obtain ⟨t, _, rfl⟩ := List.mem_map.mp ha
      obtain ⟨h1, h2⟩ := (cmbG_mem (r + 1) xs b).mp hb
      cases b with
      | nil => cases h2
      | cons y b =>
        have h3 := hs.1 y (h1.subset (by simp))
        unfold lexG
        rw [if_neg]
        · exact h3
        · intro z
          subst z
          rw [h.irr] at h3
          cases h3
/-- the first good row: fewest members first -/
def firstD (good : List α → Bool) (vs : List α) : Nat → Nat → Option (List α)
  | _, 0 => none
  | m, n + 1 => match (Cb.cmb m vs).find? good with
    | some s => some s
    | none => firstD good vs (m + 1) n
theorem firstD_some (h : Lo enc lt) {good : List α → Bool} {vs : List α} (hv : vs.Pairwise fun a b => lt a b = true) : ∀ (n m : Nat) (r : List α), firstD good vs m n = some r → r.Sublist vs ∧ good r = true ∧ r.length < m + n ∧ ∀ t, t.Sublist vs → good t = true → m ≤ t.length → ltL lt t r = false := by
  intro n
  induction n with
  | zero => intro m r e; cases e
  | succ n ih =>
    intro m r e
    unfold firstD at e
    cases q : (Cb.cmb m vs).find? good with
    | some s =>
      rw [q] at e
      cases e
      have hs := List.mem_of_find?_eq_some q
      have hg := List.find?_some q
      obtain ⟨h1, h2⟩ := (cmbG_mem m _ _).mp hs
      refine ⟨h1, hg, by omega, fun t ht hgt hm => ?_⟩
      unfold ltL ltP
      by_cases c : t.length = r.length
      · rw [if_pos (by show (t.length : Int) = r.length; omega)]
        have htm := (cmbG_mem m vs t).mpr ⟨ht, by omega⟩
        obtain ⟨as, bs, e, hno⟩ := (List.find?_eq_some_iff_append.mp q).2
        have hl := cmbG_lex h m hv
        rw [e] at hl htm
        rcases List.mem_append.mp htm with z | z
        · have := hno t z
          rw [hgt] at this
          cases this
        · rcases List.mem_cons.mp z with z | z
          · subst z
            exact (lo_row h).irr t
          · exact lexG_as h _ _ ((List.pairwise_cons.mp (List.pairwise_append.mp hl).2.1).1 t z)
      · rw [if_neg (by show ¬ (t.length : Int) = r.length; omega)]
        unfold ltI
        simp
        omega
    | none =>
      rw [q] at e
      obtain ⟨h1, h2, h4, h3⟩ := ih (m + 1) r e
      refine ⟨h1, h2, by omega, fun t ht hgt hm => ?_⟩
      by_cases c : t.length = m
      · have := List.find?_eq_none.mp q t ((cmbG_mem m vs t).mpr ⟨ht, c⟩)
        exact absurd hgt this
      · exact h3 t ht hgt (by omega)
theorem firstD_none {good : List α → Bool} {vs : List α} : ∀ (n m : Nat), firstD good vs m n = none → ∀ t, t.Sublist vs → m ≤ t.length → t.length < m + n → good t = false := by
  intro n
  induction n with
  | zero => intro m _ t _ h1 h2; omega
  | succ n ih =>
    intro m h t ht h1 h2
    unfold firstD at h
    cases q : (Cb.cmb m vs).find? good with
    | some s => rw [q] at h; cases h
    | none =>
      rw [q] at h
      by_cases c : t.length = m
      · have := List.find?_eq_none.mp q t ((cmbG_mem m vs t).mpr ⟨ht, c⟩)
        simpa using this
      · exact ih (m + 1) h t ht (by omega) (by omega)
theorem combD_enc (enc : α → D) (xs : List α) (r : Nat) : combD (xs.map enc) (r : Int) = (Cb.cmb r xs).map fun s => .tuple (s.map enc) := by
  unfold combD
  rw [Int.toNat_natCast, Cb.cmb_map, List.map_map]
  rfl
end
end Mi

namespace Mi
open PySem PySem.Spec L2
/-! ### index, count of a list or a tuple; dict(pairs) of a tuple -/
theorem re_plT {K : Fg} {y : Cy} {dr : Option Addr} {F H : Hp} {env : En} {σ : L2.St} (re : Re K y dr F env σ H) {a : Addr} {vs : List V} (h : PlT K F a vs) : PlT K H a vs := plT_mono re.rf.sub h
section
variable {X : Cx} {pins : List (Addr × Obj)} {σ : L2.St} {H : Hp} {s : Shared}
/-- a plain tuple in the heap -/
theorem plT_at (I : Inv X pins σ H s) {p : Addr} {vs : List V} (h : PlT X.G H p vs) : ∃ (o : Obj) (us : List Value) (n : Nat), s.heap.get? p = some o ∧ o.cls = .type "tuple" ∧ o.dict = none ∧ o.data = .seq us.toArray n ∧ Vals vs us ∧ us.length ≤ sizeLine := by
  rcases h with ⟨o, h, t1, t2⟩ | ⟨o, its, n, h1, ⟨t1, t2⟩, h3, h4, h5⟩
  · obtain ⟨e, hz, us, r, o2, e2, hc, n, hd⟩ := I.hok _ _ h
    rw [e] at e2
    cases e2
    exact ⟨o, us, n, e, t1, t2, hd, r, by rw [← r.length]; exact hz⟩
  · exact ⟨o, its.toList, n, I.kIn _ _ h1, t1, t2, by simpa using h3, h5, by simpa using h4⟩
theorem tyT_is (I : Inv X pins σ H s) {x : V} {v : Value} (r : RelV x v) {p : Addr} {vs : List V} (e : x = .ref p) (h : PlT X.G H p vs) : s.TypeIs v "tuple" ∧ ∀ a, v = .ref a → ∃ ob, s.heap.get? a = some ob ∧ ob.dict = none := by
  subst e
  cases r
  obtain ⟨o, us, n, h1, h2, h3, _⟩ := plT_at I h
  exact ⟨⟨o, h1, h2⟩, fun a e => by cases e; exact ⟨o, h1, h3⟩⟩
end
/-- a method of a list or a tuple -/
def tBM2 (K : Fg) (r1 r2 : V → List V → Hp → VK → Prop) (to : TE) (t : TA) : TE := fun σ H Q => to σ H fun x H1 =>
  (tyV K "list" x H1 ∧ t σ H1 fun xs H2 => r1 x xs H2 Q) ∨ ((∃ p vs, x = .ref p ∧ PlT K H1 p vs) ∧ t σ H1 fun xs H2 => r2 x xs H2 Q)
section
variable {X : Cx} {o e : Expr} {es : List Expr} {to : TE} {t : TA} {name : Str} {apos cpos : Pos} {id1 id2 : String} {r1 r2 : V → List V → Hp → VK → Prop}
open PyProof.Rows in
theorem pe_bm2 (s1 : Slot "list" name id1) (t1 : typeOf (.builtin id1) = pure (.type "method_descriptor")) (m1 : MtR X id1 r1) (s2 : Slot "tuple" name id2) (t2 : typeOf (.builtin id2) = pure (.type "method_descriptor")) (m2 : MtR X id2 r2) (ho : PE X o to) (ha : PA X (e :: es) t)
    (hbase : attributeBase o name X.env (eval o X.env) = eval o X.env := by rfl)
    (hfew : ((backTo cpos (starEach (e :: es) X.env)).all (fun x => !x.1) && (backToKw cpos (keywordEach [] X.env)).all (fun x => x.1.isSome)
      && decide ((e :: es).length + ([] : List Keyword).length + (if ([] : List Keyword).isEmpty then 0 else 1) < 30)) = true := by rfl)
    (hline : (apos.endLine == cpos.line) = true := by rfl) (hs : starEach (e :: es) X.env = (false, eval e X.env) :: starEach es X.env := by rfl) (hplain : (backTo cpos (starEach es X.env)).any (·.1) = false := by rfl) :
    PE X (.Call (.Attribute o name apos) (e :: es) [] cpos) (tBM2 X.G r1 r2 to t) := by
  refine ⟨fun pins s σ H Q I h => ?_⟩
  have go : ∀ {id : String} {r : V → List V → Hp → VK → Prop} {H1 : Hp} {s1 : Shared} {x : V} {v : Value}, MtR X id r → Inv X pins σ H1 s1 → RelV x v → t σ H1 (fun xs H2 => r x xs H2 Q) → wpAny (model X.prog X.w) X.A (callWith cpos (.builtin id) [v] (backTo cpos (starEach (e :: es) X.env)) []) (EP X pins σ Q) X.xe s1 := by
    intro id r H1 s1 x v hm I1 rx q
    have hA := ha.run cpos pins s1 σ H1 _ I1 q
    rw [hs] at hA ⊢
    refine Calls.callWith_builtin (by show (false || (backTo cpos (starEach es X.env)).any (·.1)) = false; rw [hplain] <;> rfl) (Calls.evalArgs_plain ?_)
    exact thn hA fun us s2 ⟨vs, H2, I2, r2, q2⟩ => hm pins s2 σ H2 x vs v us Q I2 rx r2 q2
  refine wpAny_Call_method_late hbase hfew hline rfl (thn (ho.run pins s σ H _ I h) fun v sh ⟨x, H1, I1, rx, q⟩ => ?_)
  rcases q with ⟨ty, q⟩ | ⟨⟨p, vs, ex, pl⟩, q⟩
  · obtain ⟨h1, h2⟩ := tyV_is I1 rx ty
    exact ⟨"list", id1, PySem.F.plainAttrs_list, s1, t1, h1, h2, go m1 I1 rx q⟩
  · obtain ⟨h1, h2⟩ := tyT_is I1 rx ex pl
    exact ⟨"tuple", id2, PySem.F.plainAttrs_tuple, s2, t2, h1, h2, go m2 I1 rx q⟩
end
section
variable {X : Cx}
def rCntT (K : Fg) : V → List V → Hp → VK → Prop := fun x xs H Q => ∃ (a : Addr) (y : V) (d : D) (vs : List V) (ds : List D), x = V.ref a ∧ xs = [y] ∧ PlT K H a vs ∧ DpAll K H vs ds ∧ Dp K H y d ∧
  SeqAt.shaped (.list ds) = true ∧ SeqAt.shaped d = true ∧ Q (.int ((ds.countP fun z => PyData.eqv z d : Nat) : Int)) H
theorem mt_cntT (hu : X.A.units + 65 < cLine) : MtR X "tuple.count" (rCntT X.G) := by
  intro pins s σ H x xs v us Q I rx rxs h
  obtain ⟨a, y, d, vs, ds, rfl, rfl, pl, ha, hy, sl, sd, q⟩ := h
  cases rx
  obtain ⟨u, rfl, ru⟩ := vals1 rxs
  obtain ⟨bs, rb⟩ := Dp.reads I d y u hy ru
  obtain ⟨o, its, n, h1, h2, h3, h4, rv, hz⟩ := plT_at I pl
  obtain ⟨as, rs⟩ := Dp.readsAll I ds vs its ha rv
  exact SeqAt.count_tuple_data (vs := its.toArray) ⟨o, h1, h2, n, h4⟩ (by simpa using rs) rb (PyData.plainAll_of_canLay0 _ (SeqAt.canLay_of_shaped sl)) (PyData.plain_of_canLay0 _ (SeqAt.canLay_of_shaped sd)) (PyProof.Rows.room_in_shaped sd hu) ⟨.int _, H, I.tok _, ⟨_, rfl⟩, q⟩
def rIdxT (K : Fg) : V → List V → Hp → VK → Prop := fun x xs H Q => ∃ (a : Addr) (y : V) (d : D) (vs : List V) (ds : List D) (j : Nat), x = V.ref a ∧ xs = [y] ∧ PlT K H a vs ∧ DpAll K H vs ds ∧ Dp K H y d ∧
  SeqAt.shaped (.list ds) = true ∧ SeqAt.shaped d = true ∧ (ds.findIdx? fun z => PyData.eqv z d) = some j ∧ Q (.int (j : Nat)) H
theorem mt_idxT (hu : X.A.units + 65 < cLine) : MtR X "tuple.index" (rIdxT X.G) := by
  intro pins s σ H x xs v us Q I rx rxs h
  obtain ⟨a, y, d, vs, ds, j, rfl, rfl, pl, ha, hy, sl, sd, hj, q⟩ := h
  cases rx
  obtain ⟨u, rfl, ru⟩ := vals1 rxs
  obtain ⟨bs, rb⟩ := Dp.reads I d y u hy ru
  obtain ⟨⟨cls, dd, data, sls⟩, its, n, h1, h2, h3, h4, rv, hz⟩ := plT_at I pl
  simp only at h2 h3 h4
  subst h2 h3 h4
  obtain ⟨as, rs⟩ := Dp.readsAll I ds vs its ha rv
  have lay := SeqAt.canLay_of_shaped sl
  have rs' : ReadsAll s.heap its.toArray.toList ds as := by simpa using rs
  obtain ⟨hjl, hit, no⟩ := SeqAt.hit_at (d := d) (vs := its.toArray) rs' (PyData.plainAll_of_canLay0 _ lay) hj
  exact call_meets PySem.F.slot_tuple_index ⟨_, h1, rfl⟩ PySem.F.entry_tuple_index (PySem.F.args_tuple_index_2 _ _) (TI.tuple_indexAt a its.toArray n none sls u (fun z => PyData.eqv (SeqAt.readOf s.heap z) d) j hjl hit no)
    ⟨h1, SeqAt.items_eqAt (vs := its.toArray) rs' rb lay (SeqAt.canLay_of_shaped sd) (PyProof.Rows.room_in_shaped sd hu), ⟨.int (j : Nat), H, I.tok _, ⟨_, rfl⟩, q⟩⟩
/-- the pairs of a row of tuples, with the key objects -/
theorem pairs_of2 {pins : List (Addr × Obj)} {σ : L2.St} {H : Hp} {s : Shared} (I : Inv X pins σ H s) : ∀ {ps : List Addr} {kws : List (Key × V)}, Paired (fun p kv => SqT X.G H p [kV kv.1, kv.2]) ps kws →
    ∃ (prs : List (Key × Value)) (us : List (Value × Value)), KV kws prs ∧ us.length = ps.length ∧ prs.length = ps.length ∧ ∀ (j : Nat) (u v : Value), us[j]? = some (u, v) → ∃ c k, ps[j]? = some c ∧ s.heap.IsTuple c #[u, v] ∧ prs[j]? = some (k, v) ∧ keyIs k u = true
  | _, _, .nil => ⟨[], [], .nil, rfl, rfl, fun j u v e => by simp at e⟩
  | _, _, .cons (a := p) (b := kv) h t => by
    obtain ⟨prs, us, k1, k2, k3, k4⟩ := pairs_of2 I t
    obtain ⟨its, rv, ht, _⟩ := I.tuple h
    obtain ⟨u0, v0, e0, ru, rw0⟩ := vals2 rv
    subst e0
    refine ⟨(kv.1, v0) :: prs, (u0, v0) :: us, .cons ⟨rfl, rw0⟩ k1, by simp [k2], by simp [k3], fun j u v e => ?_⟩
    cases j with
    | zero =>
      simp only [List.getElem?_cons_zero, Option.some.injEq, Prod.mk.injEq] at e
      obtain ⟨rfl, rfl⟩ := e
      exact ⟨p, kv.1, rfl, ht, rfl, kV_is (P := X.prog) (w := X.w) ru⟩
    | succ j =>
      obtain ⟨c, k, e1, e2, e3, e4⟩ := k4 j u v (by simpa using e)
      exact ⟨c, k, by simpa using e1, e2, by simpa using e3, e4⟩
/-- dict(t), a tuple of pairs -/
theorem call_dictPT (hcalm : X.calm = true) : CallR X (.type "dict") (fun xs H Q => ∃ (a : Addr) (ps : List Addr) (kws : List (Key × V)), xs = [.ref a] ∧ PlT X.G H a (ps.map V.ref) ∧ Paired (fun p kv => SqT X.G H p [kV kv.1, kv.2]) ps kws ∧
    ∀ p, H p = none → Q (.ref p) (upd H p (.dK (mergeK [] kws)))) := by
  intro pins s σ H xs us Q I r q
  obtain ⟨a, ps, kws, rfl, pl, hp, q⟩ := q
  obtain ⟨u, rfl, rx⟩ := vals1 r
  cases rx
  obtain ⟨o, its, n, h1, h2, h3, h4, rv, hz⟩ := plT_at I pl
  have ei := refs_at rv
  subst ei
  rw [List.length_map] at hz
  obtain ⟨prs, us, k1, k2, k3, k4⟩ := pairs_of2 I hp
  have big : (s.heap.objs.size == sysModules) = false := beq_eq_false_iff_ne.mpr (Nat.ne_of_gt I.big)
  refine PySem.call_dict_pairs (knd := mixKind X.prog X.w) (kvs := prs) (PairArg.tuple a (ps.map Value.ref).toArray (fun j => ps.getD j 0) us) (I.ok.hd hcalm) ⟨⟨o, n, h1, h2, h3, h4⟩, by simp [k2], fun j k v e => ?_⟩ ⟨by omega, fun j k v e => ?_⟩ (by omega) fun h' tk hd hk => ?_
  · obtain ⟨c, k', e1, e2, e3, e4⟩ := k4 j k v e
    exact ⟨by simp [e1], .inl (by simpa [e1] using e2)⟩
  · obtain ⟨c, k', e1, e2, e3, e4⟩ := k4 j k v e
    exact ⟨k', e3, e4⟩
  · refine ⟨.ref s.heap.objs.size, upd H s.heap.objs.size (.dK (mergeK [] kws)), I.laid (t' := tk) (fun c o e => hk c o (by simp) e) (Nat.le_refl _) (show ObjOk X.prog X.w _ _ _ (.dK (mergeK [] kws)) from ⟨?_, big, merged [] prs, KV.merge k1 .nil, hd⟩), rfl, q _ (I.hok.fresh (Nat.le_refl _))⟩
    refine Nat.le_trans (length_mergeK kws []) ?_
    rw [List.length_nil, Nat.zero_add, k1.length, k3]
    exact hz
end
section
variable {X : Cx} {b b' : Bool} {a c : Expr} {ma mc : SE} {pos apos cpos : Pos}
def sIdx2 (ma mc : SE) : SE := fun env Q => ma env fun x => match x with
  | .list ds => mc env fun z => ob (idxL ds z) Q
  | .tuple ds => mc env fun z => ob (idxL ds z) Q
  | _ => False
def sCnt2 (ma mc : SE) : SE := fun env Q => ma env fun x => match x with
  | .list ds => mc env fun z => ob (cntL ds z) Q
  | .tuple ds => mc env fun z => ob (cntL ds z) Q
  | _ => False
@[simp] theorem u_sIdx2 {env : En} {Q : D → Prop} : sIdx2 ma mc env Q = (ma env fun x => match x with | .list ds => mc env fun z => ob (idxL ds z) Q | .tuple ds => mc env fun z => ob (idxL ds z) Q | _ => False) := rfl
@[simp] theorem u_sCnt2 {env : En} {Q : D → Prop} : sCnt2 ma mc env Q = (ma env fun x => match x with | .list ds => mc env fun z => ob (cntL ds z) Q | .tuple ds => mc env fun z => ob (cntL ds z) Q | _ => False) := rfl
theorem lay_tl {ds : List D} (h : SeqAt.shaped (.list ds) = true) : (PyData.tuple ds).canLay0 = true := by
  have := lay_shaped h
  simpa [PyData.canLay0] using this
theorem dp_tup {K : Fg} {H : Hp} {p : Addr} {vs : List V} {ds : List D} (h : Dp K H (.ref p) (.tuple ds)) (hs : SqT K H p vs) (hu : ∀ {us}, SqT K H p us → us = vs) : DpAll K H vs ds := by
  cases h with
  | tup h1 h2 => rw [← hu h1]; exact h2
theorem rvs_dpAll {K : Fg} {F : Hp} : ∀ {ds : List D} {vs : List V}, Rvs K F ds vs → PyData.canLayAll0 ds = true → DpAll K F vs ds
  | [], _, .nil, _ => .nil
  | d :: ds, _, .cons r t, h => by
    simp only [PyData.canLayAll0, Bool.and_eq_true] at h
    exact .cons (r.dp h.1) (rvs_dpAll t h.2)
theorem dpAll_mono {K : Fg} {F H : Hp} (h : Same F H) : ∀ {ds : List D} {vs : List V}, DpAll K F vs ds → DpAll K H vs ds
  | _, _, .nil => .nil
  | _, _, .cons r t => .cons (dp_mono h r) (dpAll_mono h t)
theorem me_idx2 (hu : X.A.units + 65 < cLine) (ha : ME X true a ma) (hc : ME X true c mc)
    (hbase : attributeBase a "index" X.env (eval a X.env) = eval a X.env := by rfl)
    (hfew : ((backTo cpos (starEach [c] X.env)).all (fun x => !x.1) && (backToKw cpos (keywordEach [] X.env)).all (fun x => x.1.isSome)
      && decide ([c].length + ([] : List Keyword).length + (if ([] : List Keyword).isEmpty then 0 else 1) < 30)) = true := by rfl)
    (hline : (apos.endLine == cpos.line) = true := by rfl) (hs : starEach [c] X.env = (false, eval c X.env) :: starEach [] X.env := by rfl) (hplain : (backTo cpos (starEach [] X.env)).any (·.1) = false := by rfl) :
    ME X b' (.Call (.Attribute a "index" apos) [c] [] cpos) (sIdx2 ma mc) := by
  refine ⟨⟨fun pins s σ H Q I h => (pe_bm2 PySem.F.slot_list_index PySem.F.type_list_index (mt_indexD hu) PySem.F.slot_tuple_index PySem.F.type_tuple_index (mt_idxT hu) ha.run (pa_cons hc.run pa_nil hs) hbase hfew hline hs hplain).run pins s σ H Q I ?_⟩,
    fun env P Q k h => ha.mono _ _ _ (fun d hd => by cases d <;> first | exact hc.mono _ _ _ (fun _ h2 => ob_mono k h2) hd | exact hd) h⟩
  obtain ⟨y, dr, F, env, re, hm⟩ := h
  refine ⟨y, dr, F, env, re, ha.mono _ _ _ (fun d hd v H1 F1 r1 s1 w1 => ?_) hm⟩
  cases d with
  | list ds =>
    obtain ⟨p, vs, rfl, h1, z1, rv⟩ := w1.list r1
    refine .inl ⟨.inl ⟨rfl, _, SqL.of h1⟩, y, dr, F1, env, r1, hc.mono _ _ _ (fun d2 h2 v2 H2 F2 r2 s2 w2 => ?_) hd⟩
    unfold idxL at h2
    by_cases c1 : SeqAt.shaped (.list ds) = true ∧ SeqAt.shaped d2 = true
    · rw [if_pos c1] at h2
      cases q : ds.findIdx? fun z => PyData.eqv z d2 with
      | none => rw [q] at h2; exact h2.elim
      | some j =>
        rw [q] at h2
        obtain ⟨hj, hp, hn⟩ := List.findIdx?_eq_some_iff_getElem.mp q
        refine ⟨p, v2, d2, ds, j, ds[j], rfl, rfl, (w1.mono s2).dp r2 (lay_shaped c1.1), w2.dp r2 (lay_shaped c1.2), c1.1, c1.2, by simp [hj], hp, fun m z' hm hz => ?_, h2 _ H2 F2 r2 (s1.trans s2) (.inl (.int _))⟩
        have hml : m < ds.length := by omega
        rw [List.getElem?_eq_getElem hml, Option.some.injEq] at hz
        rw [← hz]
        simpa using hn m hm
    · rw [if_neg c1] at h2; exact h2.elim
  | tuple ds =>
    obtain ⟨p, vs, rfl, h1, z1, rv⟩ := w1.tuple r1
    refine .inr ⟨⟨p, vs, rfl, re_plT r1 h1⟩, y, dr, F1, env, r1, hc.mono _ _ _ (fun d2 h2 v2 H2 F2 r2 s2 w2 => ?_) hd⟩
    unfold idxL at h2
    by_cases c1 : SeqAt.shaped (.list ds) = true ∧ SeqAt.shaped d2 = true
    · rw [if_pos c1] at h2
      cases q : ds.findIdx? fun z => PyData.eqv z d2 with
      | none => rw [q] at h2; exact h2.elim
      | some j =>
        rw [q] at h2
        exact ⟨p, v2, d2, vs, ds, j, rfl, rfl, re_plT r2 (plT_mono s2.f h1), dpAll_mono r2.rf.sub (rvs_dpAll (rv.mono s2.f) (SeqAt.canLay_of_shaped c1.1)), w2.dp r2 (lay_shaped c1.2), c1.1, c1.2, q, h2 _ H2 F2 r2 (s1.trans s2) (.inl (.int _))⟩
    · rw [if_neg c1] at h2; exact h2.elim
  | _ => exact hd.elim
theorem me_cnt2 (hu : X.A.units + 65 < cLine) (ha : ME X true a ma) (hc : ME X true c mc)
    (hbase : attributeBase a "count" X.env (eval a X.env) = eval a X.env := by rfl)
    (hfew : ((backTo cpos (starEach [c] X.env)).all (fun x => !x.1) && (backToKw cpos (keywordEach [] X.env)).all (fun x => x.1.isSome)
      && decide ([c].length + ([] : List Keyword).length + (if ([] : List Keyword).isEmpty then 0 else 1) < 30)) = true := by rfl)
    (hline : (apos.endLine == cpos.line) = true := by rfl) (hs : starEach [c] X.env = (false, eval c X.env) :: starEach [] X.env := by rfl) (hplain : (backTo cpos (starEach [] X.env)).any (·.1) = false := by rfl) :
    ME X b' (.Call (.Attribute a "count" apos) [c] [] cpos) (sCnt2 ma mc) := by
  refine ⟨⟨fun pins s σ H Q I h => (pe_bm2 PySem.F.slot_list_count PySem.F.type_list_count (mt_countD hu) PySem.F.slot_tuple_count PySem.F.type_tuple_count (mt_cntT hu) ha.run (pa_cons hc.run pa_nil hs) hbase hfew hline hs hplain).run pins s σ H Q I ?_⟩,
    fun env P Q k h => ha.mono _ _ _ (fun d hd => by cases d <;> first | exact hc.mono _ _ _ (fun _ h2 => ob_mono k h2) hd | exact hd) h⟩
  obtain ⟨y, dr, F, env, re, hm⟩ := h
  refine ⟨y, dr, F, env, re, ha.mono _ _ _ (fun d hd v H1 F1 r1 s1 w1 => ?_) hm⟩
  cases d with
  | list ds =>
    obtain ⟨p, vs, rfl, h1, z1, rv⟩ := w1.list r1
    refine .inl ⟨.inl ⟨rfl, _, SqL.of h1⟩, y, dr, F1, env, r1, hc.mono _ _ _ (fun d2 h2 v2 H2 F2 r2 s2 w2 => ?_) hd⟩
    unfold cntL at h2
    by_cases c1 : SeqAt.shaped (.list ds) = true ∧ SeqAt.shaped d2 = true
    · rw [if_pos c1] at h2
      exact ⟨p, v2, d2, ds, rfl, rfl, (w1.mono s2).dp r2 (lay_shaped c1.1), w2.dp r2 (lay_shaped c1.2), c1.1, c1.2, h2 _ H2 F2 r2 (s1.trans s2) (.inl (.int _))⟩
    · rw [if_neg c1] at h2; exact h2.elim
  | tuple ds =>
    obtain ⟨p, vs, rfl, h1, z1, rv⟩ := w1.tuple r1
    refine .inr ⟨⟨p, vs, rfl, re_plT r1 h1⟩, y, dr, F1, env, r1, hc.mono _ _ _ (fun d2 h2 v2 H2 F2 r2 s2 w2 => ?_) hd⟩
    unfold cntL at h2
    by_cases c1 : SeqAt.shaped (.list ds) = true ∧ SeqAt.shaped d2 = true
    · rw [if_pos c1] at h2
      exact ⟨p, v2, d2, vs, ds, rfl, rfl, re_plT r2 (plT_mono s2.f h1), dpAll_mono r2.rf.sub (rvs_dpAll (rv.mono s2.f) (SeqAt.canLay_of_shaped c1.1)), w2.dp r2 (lay_shaped c1.2), c1.1, c1.2, h2 _ H2 F2 r2 (s1.trans s2) (.inl (.int _))⟩
    · rw [if_neg c1] at h2; exact h2.elim
  | _ => exact hd.elim
def sPairs2 (m : SE) : SK := fun env Q => m env fun d => match d with
  | .list xs => obK (pairsOf xs) fun kvs => Q (mergeG [] kvs)
  | .tuple xs => obK (pairsOf xs) fun kvs => Q (mergeG [] kvs)
  | _ => False
@[simp] theorem u_sPairs2 {m : SE} {env : En} {Q : List (Key × D) → Prop} : sPairs2 m env Q = (m env fun d => match d with
  | .list xs => obK (pairsOf xs) fun kvs => Q (mergeG [] kvs)
  | .tuple xs => obK (pairsOf xs) fun kvs => Q (mergeG [] kvs)
  | _ => False) := rfl
theorem mk_pairs2 {p : Pos} (hc : X.calm = true) (hg : Gl X "dict") (hm : X.mg "dict" = none) (ha : ME X true a ma) (he : starEach [a] X.env = (false, eval a X.env) :: starEach [] X.env := by rfl) (hpl : (backTo pos (starEach [] X.env)).any (·.1) = false := by rfl) :
    MK X (.Call (.Name "dict" p) [a] [] pos) (sPairs2 ma) := by
  refine ⟨⟨fun pins s σ H Q I hq => (pe_callTy (CallR.or (call_dictP hc) (call_dictPT hc)) hg hm (by decide +kernel) (pa_cons ha.run pa_nil he) (by decide) (by decide) he hpl).run pins s σ H Q I ?_⟩, fun env P Q k hp => ha.mono _ _ _ (fun d h1 => ?_) hp⟩
  · obtain ⟨y, dr, F, env, re, hm⟩ := hq
    refine ⟨y, dr, F, env, re, ha.mono _ _ _ (fun d1 h1 v1 H1 F1 r1 s1 w1 => ?_) hm⟩
    cases d1 with
    | list xs =>
      have h1 : obK (pairsOf xs) _ := h1
      cases q : pairsOf xs with
      | none => rw [q] at h1; exact h1.elim
      | some kvs =>
        rw [q] at h1
        obtain ⟨l, vs, rfl, hl, hz, rv, nd, _⟩ := w1.listD r1
        obtain ⟨ps, kws, rfl, h2, h3⟩ := pairs_rvs r1 q rv
        exact .inl ⟨l, ps, kws, rfl, SqL.of hl, h2, fun p2 hp2 => h1 p2 _ _ F1 (r1.grown hp2) (s1.trans (Ex.grown hp2)) (s1.none (r1.free hp2).nd hp2) upd_same (r1.free hp2) (rks_merge h3 .nil)⟩
    | tuple xs =>
      have h1 : obK (pairsOf xs) _ := h1
      cases q : pairsOf xs with
      | none => rw [q] at h1; exact h1.elim
      | some kvs =>
        rw [q] at h1
        obtain ⟨l, vs, rfl, hl, hz, rv⟩ := w1.tuple r1
        obtain ⟨ps, kws, rfl, h2, h3⟩ := pairs_rvs r1 q rv
        exact .inr ⟨l, ps, kws, rfl, re_plT r1 hl, h2, fun p2 hp2 => h1 p2 _ _ F1 (r1.grown hp2) (s1.trans (Ex.grown hp2)) (s1.none (r1.free hp2).nd hp2) upd_same (r1.free hp2) (rks_merge h3 .nil)⟩
    | _ => exact h1.elim
  · cases d with
    | list xs => exact obK_mono (fun kvs h => k _ h) h1
    | tuple xs => exact obK_mono (fun kvs h => k _ h) h1
    | _ => exact h1.elim
end
/-! ### an own dict locked while an expression is reckoned, the answer an atom -/
def sLockA (i : Nat) (m : SE) : SE := fun env Q => match gv env i with
  | .k kvs => m (env.set i (.v (lkD kvs))) fun d => atomD d = true ∧ Q d
  | _ => False
abbrev sVarK (i : Nat) : SE := sVar i
def lockK (s : Sl) (P : List (Key × D) → Prop) : Prop := match s with
  | .k kvs => P kvs
  | _ => False
@[simp] theorem lockK_k {kvs : List (Key × D)} {P : List (Key × D) → Prop} : lockK (.k kvs) P = P kvs := rfl
@[simp] theorem u_sLockA {i : Nat} {m : SE} {env : En} {Q : D → Prop} : sLockA i m env Q = lockK (gv env i) fun kvs => m (env.set i (.v (lkD kvs))) fun d => atomD d = true ∧ Q d := rfl
section
variable {X : Cx} {b b' : Bool}
theorem me_lockA {i : Nat} {e : Expr} {m : SE} (h : ME X b e m) : ME X b' e (sLockA i m) := by
  refine ⟨⟨fun pins s σ H Q I hq => ?_⟩, fun env P Q k hp => ?_⟩
  · obtain ⟨y, dr, F, env, re, hm⟩ := hq
    unfold sLockA at hm
    split at hm
    · rename_i kvs q0
      have q := gv_k q0
      obtain ⟨o, g1, p, kws, g2, g3, g4, g5⟩ := re.get q
      subst g2
      refine (pe_lock h.run).run pins s σ H Q I ⟨p, .dK kws, g3, trivial, fun od => ?_⟩
      have r1 := re.lock (od := od) q g1 g3 g4
      refine ⟨y, dr, _, _, r1, h.mono _ _ _ (fun d hd v H2 F2 r2 x w => ?_) hm⟩
      have fp : F2 p = some (.frz od (.dK kws)) := x.f _ _ upd_same
      obtain ⟨F3, f1, f2, f3, r3⟩ := re.unlock q g1 g3 g4 r2 x
      refine ⟨r2.rf.sub _ _ fp, hd.2 _ _ F3 r3 ⟨f1, fun c o e n => ?_⟩ (.inl ?_)⟩
      · by_cases nn : c = p
        · subst nn
          rw [g3] at e; cases e
          exact upd_same
        · rw [upd_ne nn]
          exact x.k c o (by rw [upd_ne nn]; exact e) n
      rcases w with w | ⟨_, j, s', e1, e2, e3⟩
      · exact w.atom hd.1
      · cases s' <;> cases e2 <;> cases hd.1
    · exact hm.elim
  · unfold sLockA at hp ⊢
    split at hp
    · exact h.mono _ _ _ (fun d hd => ⟨hd.1, k _ hd.2⟩) hp
    · exact hp
end
end Mi

namespace Mi
open PySem PySem.Spec L2
/-! ### sets of texts -/
open PySem.Froz in
/-- the payload of a set of the texts l, walked in some order -/
structure TxR (P : Program) (w : World) (D : SD) (l : List Str) : Prop where
  ok : TxOk P w D l
  ris : Ris D.2.2.place.toList
  led : w.params.followText "set-order" = true ∨ D.2.2.led = true
  nd : l.Nodup
section
open PySem.Froz
variable {P : Program} {w : World} {A : Around} {E : Value → Shared → Prop} {s : Shared}
theorem txR_add {D : SD} {l : List Str} {k : Str} (u : Tok) (F : TxR P w D l) (hk : k ∉ l) : TxR P w (addTx (hashStr w k) (.str k u) D) (k :: l) := by
  have tail : ∀ {ep : Nat} {es1 : Array (Int × Value)} {t2 : SetTable} {wd : Bool}, (Ris t2.place.toList → Ris (tailTx ep es1 t2 wd).2.2.place.toList) ∧ (t2.led = true → (tailTx ep es1 t2 wd).2.2.led = true) := fun {ep es1 t2 wd} => by
    unfold tailTx
    by_cases c : (!wd && t2.tooFull) = true
    · rw [if_pos c]
      exact ⟨fun _ => relayAll_ris _ _ _, fun h => (relayAll_led _ _ _).trans h⟩
    · rw [if_neg c]
      exact ⟨id, id⟩
  have off : ∀ (t : SetTable) (c : Bool), (if c = true then { t with plain := false } else t).place = t.place ∧ (if c = true then { t with plain := false } else t).led = t.led := fun t c => by
    cases c <;> exact ⟨rfl, rfl⟩
  refine ⟨add_ok u F.ok, ?_, ?_, List.nodup_cons.mpr ⟨hk, F.nd⟩⟩
  · refine tail.1 ?_
    rw [(off _ _).1]
    exact layNew_ris D.2.2 D.1 (hashStr w k) (.str k u) F.ris
  · refine F.led.imp id fun z => tail.2 ?_
    rw [(off _ _).2]
    exact (layNew_led D.2.2 D.1 (hashStr w k) (.str k u)).trans z
theorem add_same {a : Addr} {T : String} {D : SD} {l : List Str} {k : Str} {u : Tok} {Q : Bool → Shared → Prop} (ho : s.heap.get? a = some (sObj T D)) (F : TxOk P w D l) (hk : k ∈ l) (hb : l.length < scanBound) (h : Q false s) : wpAny (model P w) A (setAddHashed a (.str k u) (hashStr w k)) Q E s := by
  obtain ⟨es, ep, t⟩ := D
  have hd : (sObj T (es, ep, t)).data = .set es ep t := rfl
  have hf : t.fits es.size = true := F.fit
  have hel : ElemsOf (strKind P w) es.toList := F.el
  have hsz : es.size = l.length := F.sz
  have hb0 : es.size < scanBound := by omega
  have hkey : (strKind P w).is k (.str k u) = true := is_str k u
  unfold setAddHashed setAddHashedIn
  refine wpAny_holding (wpAny_bind (wpAny_setState_of ho hd hf ?_))
  dsimp only
  rw [byScan_of rfl hb0 hel]
  simp only [↓reduceIte]
  unfold setAddByScan
  refine wpAny_bind ?_
  refine wpAny_bind (wpAny_rule ?_)
  refine wpAny_bind (wpAny_setScan_of (knd := strKind P w) (k := k) hkey ho hd hf hel ?_)
  cases hr : List.findIdx? (fun e => (strKind P w).is k e.2) es.toList with
  | some j =>
    dsimp only
    exact wpAny_pure (wpAny_pure h)
  | none =>
    exfalso
    obtain ⟨e, he, hp⟩ := (F.mem k).mp hk
    have := List.findIdx?_eq_none_iff.mp hr e he
    rw [hp] at this
    cases this
end
open PySem.Froz in
def SetT (P : Program) (w : World) (h : Heap) (a : Addr) (ns : List Str) (c : Nat) : Prop := ∃ D l, h.get? a = some (sObj "set" D) ∧ TxR P w D l ∧ (∀ k, k ∈ l ↔ k ∈ ns) ∧ l.length = c
section
open PySem.Froz
variable {P : Program} {w : World} {A : Around} {E : Value → Shared → Prop} {s : Shared}
theorem SetT.at {h h' : Heap} {a : Addr} {ns : List Str} {c : Nat} (R : SetT P w h a ns c) (k : ∀ o, h.get? a = some o → h'.get? a = some o) : SetT P w h' a ns c := by
  obtain ⟨D, l, h1, h2⟩ := R
  exact ⟨D, l, k _ h1, h2⟩
theorem setT_new_at {h : Heap} {a : Addr} {ns : List Str} (ho : h.get? a = some (eSet w)) : SetT P w h a (ns.take 0) 0 :=
  ⟨(#[], 0, .fresh 0 0 (!w.params.followText "set-order")), [], ho, ⟨TxOk.nil rfl, List.Pairwise.nil, by
    show _ ∨ (!w.params.followText "set-order") = true
    cases w.params.followText "set-order"
    · exact .inr rfl
    · exact .inl rfl, List.nodup_nil⟩, fun k => by simp, rfl⟩
theorem set_update_txts {I : Addr} {fp wr : List Addr} {G : Array GenState → Array GenState → Prop} {n : Nat} {Pv : Nat → Value → Prop} {St : Nat → Shared → Prop} {R : Result → Shared → Prop}
    (W : WalksS P w A.in1 I fp wr G n Pv St) (S : Addr) (hSf : S ∉ fp) (ns : List Str) (hn : n = ns.length) (hb : ns.length + 1 < scanBound) (hval : ∀ i v, Pv i v → ∃ k t, ns[i]? = some k ∧ v = .str k t) :
    ∀ (k i : Nat) (s : Shared), n - i = k → i ≤ n → St i s → (∃ c, c ≤ i ∧ SetT P w s.heap S (ns.take i) c) →
      (∀ s' c, Moved (S :: wr) G s s' → c ≤ n → SetT P w s'.heap S ns c → R (.ok (.ret .none)) s') →
      codeAny (model P w) A (.builtin "set.update.loop" ⟨[.ref S, .ref I], []⟩) R s := by
  have hSw : S ∉ wr := fun h => hSf (W.sub _ h)
  have hsub : ∀ c ∈ wr, c ∈ S :: wr := fun c hc => List.mem_cons_of_mem _ hc
  intro m
  induction m with
  | zero =>
    intro i s hm hi hst ⟨c, hc, hS⟩ hR
    obtain rfl : i = n := by omega
    refine codeAny_builtin PyProof.Rows.F.entry_set_update_loop ?_
    rw [Around.under_plainId PyProof.Rows.F.plain_set_update_loop _]
    show wpAny _ A.in1 (pyNext (.ref I) >>= _) _ _ s
    refine wpAny_bind (W.done s _ _ hst fun s' hm' => ?_)
    show wpAny _ A.in1 (ret Value.none) _ _ s'
    rw [List.take_of_length_le (by omega)] at hS
    exact wpAny_pure (hR s' c (hm'.mono hsub) hc (hS.at fun o e => hm'.heap S o hSw e))
  | succ m ih =>
    intro i s hm hi hst ⟨c, hc, hS⟩ hR
    have hlt : i < n := by omega
    refine codeAny_builtin PyProof.Rows.F.entry_set_update_loop ?_
    rw [Around.under_plainId PyProof.Rows.F.plain_set_update_loop _]
    show wpAny _ A.in1 (pyNext (.ref I) >>= _) _ _ s
    refine wpAny_bind (W.item i s _ _ hlt hst fun v s' hP hst' hmv => ?_)
    obtain ⟨z, t, hz, rfl⟩ := hval i v hP
    obtain ⟨D, l, ho, F1, hmem, hlen⟩ := hS.at fun o e => hmv.heap S o hSw e
    have etk : ∀ k, k ∈ ns.take (i + 1) ↔ k ∈ ns.take i ∨ k = z := fun k => by
      rw [List.take_add_one, hz]
      simp [List.mem_append]
    show wpAny _ A.in1 (holding [Value.str z t] (setAdd S (.str z t)) >>= _) _ _ s'
    refine wpAny_bind (wpAny_holding ?_)
    unfold setAdd
    refine wpAny_holding ?_
    refine wpAny_bind ((strKind P w).pyHash (k := z) (is_str _ _) ?_)
    by_cases hk : z ∈ l
    · refine add_same (s := { s' with toks := s'.toks + 1 }) ho F1.ok hk (by omega) ?_
      refine wpAny_pure ⟨plainId_quiet PyProof.Rows.F.plain_set_update_loop _, ih (i + 1) _ (by omega) hlt (W.frame _ s' _ _ hst' (Nat.le_succ _) fun b hb o e => e) ⟨c, by omega, D, l, ho, F1, fun k => by rw [etk, ← hmem]; exact ⟨.inl, fun h => h.elim id fun e => e ▸ hk⟩, hlen⟩ fun s'' c2 hm'' hc'' hS'' => ?_⟩
      exact hR s'' c2 (Moved.trans W.gtrans ((hmv.mono hsub).then_heap (Nat.le_succ _) fun b o hb e => e) hm'') hc'' hS''
    · refine add_x (s := { s' with toks := s'.toks + 1 }) ho F1.ok hk (by omega) ?_
      have sb : Heap.SameBut S s'.heap (s'.heap.update S (fun _ => sObj "set" (addTx (hashStr w z) (.str z t) D))) := Heap.SameBut.update ..
      refine wpAny_pure ⟨plainId_quiet PyProof.Rows.F.plain_set_update_loop _, ih (i + 1) _ (by omega) hlt (W.frame _ s' _ _ hst' (Nat.le_succ _) fun b hb o e => ?_) ⟨c + 1, by omega, _, z :: l, get_upd _ ho rfl, txR_add t F1 hk, fun k => by rw [etk, ← hmem, List.mem_cons]; exact Or.comm, by rw [List.length_cons, hlen]⟩ fun s'' c2 hm'' hc'' hS'' => ?_⟩
      · rw [sb.2 b (fun h : b = S => hSf (by rw [← h]; exact hb))]; exact e
      · refine hR s'' c2 (Moved.trans W.gtrans ((hmv.mono hsub).then_heap (Nat.le_succ _) fun b o hb e => ?_) hm'') hc'' hS''
        rw [sb.2 b (fun h : b = S => hb (by rw [h]; exact List.mem_cons_self))]; exact e
end
open PyProof.Rows in
set_option maxHeartbeats 3200000 in
theorem set_listT {P : Program} {w : World} {A : Around} {E : Value → Shared → Prop} {s : Shared} {l : Addr} {its : Array Value} (ns : List Str) {Q : Value → Shared → Prop} (hh : A.handled = none) (hl : s.heap.IsList l its) (hi : StrsAre its.toList ns) (hb : ns.length + 1 < scanBound)
    (h : ∀ (h' : Heap) (tk c : Nat), SetT P w h' s.heap.objs.size ns c → c ≤ ns.length → (∀ b o, s.heap.get? b = some o → h'.get? b = some o) → Q (.ref s.heap.objs.size) { s with heap := h', toks := tk }) :
    wpAny (model P w) A (call (.type "set") [.ref l]) Q E s := by
  have hsz : its.size = ns.length := by
    rw [← hi.length, Array.length_toList]
  obtain ⟨c, tl, hmro⟩ := F.called_set.mro
  have m1 := F.called_set.made
  have m2 := F.called_set.sub
  have m3 := F.called_set.notType
  have m4 := F.called_set.canCreate
  have m5 := F.typeCall_set_1 (.ref l)
  apply wpAny_call
  apply codeAny_of_tree
  show wpAny _ _ (callAny (.type "set")
    _) _ _ _
  apply wpAny_pure
  refine ⟨Code.quiet_builtin _ (by decide +kernel), ?_⟩
  apply codeAny_builtin F.entry_type_call
  rw [Around.under_plain
    (weight_type_call_type "set" [.ref l] []) rfl]
  repeat (any_goals (first | assumption | wp_step))
  refine codeAny_mono (code_set_led1 (.ref l) (E := E) (Q₁ := fun obj s₁ => obj = .ref s.heap.objs.size ∧ s₁ = { s with heap := s.heap.push (eSet w) }) ⟨rfl, rfl⟩) ?_
  intro r s₁ hr
  cases r with
  | error e => exact hr
  | ok fl =>
    cases fl with
    | ret obj =>
      obtain ⟨rfl, rfl⟩ := hr
      have hS : (s.heap.push (eSet w)).get? s.heap.objs.size = some (eSet w) := Heap.get?_push_size _ rfl
      have hT : Shared.TypeIs { s with heap := s.heap.push (eSet w) } (.ref s.heap.objs.size) "set" := ⟨_, hS, rfl⟩
      have m6 := F.called_set.init.lookup
      have m7 := F.called_set.init.bind (.ref s.heap.objs.size)
      repeat (any_goals (first | assumption | wp_step))
      refine codeAny_mono (codeAny_call_builtin (R := wants (fun r s₂ => r = .none ∧ ∃ h' tk c, s₂ = { s with heap := h', toks := tk } ∧ SetT P w h' s.heap.objs.size ns c ∧ c ≤ ns.length ∧ (∀ b o, s.heap.get? b = some o → h'.get? b = some o)) E) F.called_set.init.plain F.entry_set_init (check_set_init_1 hT ?_)) ?_
      · obtain ⟨ol, hol, hcl, nl, hdl⟩ := hl
        obtain ⟨oc, od, odt, osl⟩ := ol
        simp only at hcl hdl
        subst hcl
        subst hdl
        have hl0 : (s.heap.push (eSet w)).get? l = some { cls := .type "list", dict := od, data := .seq its nl, slots := osl } := Heap.get?_push_of_some _ hol
        have n1 := F.sub_list_set
        have n2 := F.sub_list_frozenset
        have n3 : (Value.type "list" == Value.type "dict") = false := by decide
        have hl1 : (s.heap.push (eSet w)).IsList l its := ⟨_, hl0, rfl, nl, rfl⟩
        unfold Builtin.«set.__init__»
        unfold noKeywords
        unfold Builtin.Frozenset.updateFrom
        generalize hPI : pyIter = PI
        wp_walk
        subst hPI
        apply wpAny_pyIter_list hl1
        apply wpAny_bind
        apply wpAny_runValue
        have p1 : l < s.heap.objs.size := Heap.lt_size hol
        have p2 : A.in1.in1.in1.handled = none := by simp [hh]
        have p3 : (s.heap.push (eSet w)).objs.size = s.heap.objs.size + 1 := Heap.size_push ..
        have p4 : l ≠ (s.heap.push (eSet w)).objs.size := by rw [p3]; exact Nat.ne_of_lt (Nat.lt_succ_of_lt p1)
        have p5 : s.heap.objs.size ∉ [(s.heap.push (eSet w)).objs.size, l] := by
          rw [p3]
          intro z
          rcases List.mem_cons.mp z with z | z
          · exact Nat.ne_of_lt (Nat.lt_succ_self _) z
          · exact Nat.ne_of_gt p1 (List.mem_singleton.mp z)
        have p6 : ∀ (i : Nat) (v : Value), its[i]? = some v → ∃ k t, ns[i]? = some k ∧ v = .str k t := fun i v hv => by
          have hin : i < ns.length := by rw [← hsz]; exact (Array.getElem?_eq_some_iff.mp hv).1
          obtain ⟨y, t, e1, e2⟩ := StrsAre.item hi i v (by rw [Array.getElem?_toList]; exact hv)
          exact ⟨y, t, e2, e1⟩
        refine set_update_txts ((Walks.list p2 _ l p4 its).toS) s.heap.objs.size p5 ns hsz hb p6 (its.size - 0) 0 _ (by omega) (Nat.zero_le _) ⟨⟨_, Heap.get?_push_size _ rfl, rfl, rfl⟩, hl1.push _⟩ ⟨0, Nat.le_refl 0, setT_new_at (Heap.get?_push_of_some _ hS)⟩ ?_
        rintro ⟨h', g2, d', tk', os'⟩ c' hm hc' hS'
        have eg : g2 = s.gens := hm.gens
        have ed : d' = s.drawn := hm.drawn
        have eo : os' = s.os := hm.os
        subst eg ed eo
        show wpAny _ _ _ _ _ _
        apply wpAny_pure
        show wpAny _ _ (ret Value.none)
          _ _ _
        refine wpAny_pure ⟨rfl, h', tk', c', rfl, hS', by omega, fun b o e => ?_⟩
        have b0 : b < s.heap.objs.size := Heap.lt_size e
        refine hm.heap b o (fun z => ?_) (Heap.get?_push_of_some _ (Heap.get?_push_of_some _ e))
        rcases List.mem_cons.mp z with z | z
        · exact Nat.ne_of_lt b0 z
        · rw [p3] at z
          exact Nat.ne_of_lt (Nat.lt_succ_of_lt b0) (List.mem_singleton.mp z)
      · intro r₂ s₂ hr₂
        cases r₂ with
        | error e => exact hr₂
        | ok fl₂ =>
          cases fl₂ with
          | ret r =>
            obtain ⟨rfl, h', tk, c, rfl, hS', hc', hk'⟩ := hr₂
            repeat (any_goals (first | assumption | wp_step))
            exact h _ _ c hS' hc' hk'
          | _ => exact hr₂.elim
    | _ => exact hr.elim
end Mi

namespace Mi
open PySem PySem.Spec L2
/-! ### sorted(set(xs)) of texts -/
open PySem.Froz in
def SetTx (P : Program) (w : World) (a : Addr) (l : List Str) : HO := .ext fun h => ∃ D, h.get? a = some (sObj "set" D) ∧ TxR P w D l
theorem perm_sub : ∀ (l ks : List Str), l.Nodup → (∀ k ∈ l, k ∈ ks) → ks.length = l.length → ks.Perm l
  | [], ks, _, _, h => by rw [List.eq_nil_of_length_eq_zero h]
  | a :: l, ks, nd, hs, h => by
    obtain ⟨n1, n2⟩ := List.nodup_cons.mp nd
    have ha := hs a (by simp)
    refine (List.perm_cons_erase ha).trans (.cons a (perm_sub l (ks.erase a) n2 (fun k hk => ?_) ?_))
    · exact (List.mem_erase_of_ne fun z => n1 (by rw [← z]; exact hk)).mpr (hs k (List.mem_cons_of_mem _ hk))
    · rw [List.length_erase_of_mem ha, h]
      rfl
section
variable {X : Cx}
def rSetTx (X : Cx) : List V → Hp → VK → Prop := fun xs H Q => ∃ (a : Addr) (ns : List Str), xs = [.ref a] ∧ SqL X.G H a (ns.map V.str) ∧ ns.length ≤ 1000 ∧ ∀ p l, H p = none → l.Nodup → (∀ k, k ∈ l ↔ k ∈ ns) → l.length ≤ ns.length → Q (.ref p) (upd H p (SetTx X.prog X.w p l))
theorem strs_ex : ∀ vs : List Value, (∀ v ∈ vs, ∃ k t, v = Value.str k t) → ∃ ks, PyProof.Rows.StrsAre vs ks
  | [], _ => ⟨[], .nil⟩
  | v :: vs, h => by
    obtain ⟨k, t, rfl⟩ := h v (by simp)
    obtain ⟨ks, hk⟩ := strs_ex vs fun u hu => h u (List.mem_cons_of_mem _ hu)
    exact ⟨k :: ks, .cons k t hk⟩
theorem cr_setTx (hc : X.calm = true) : CallR X (.type "set") (rSetTx X) := by
  intro pins s σ H vs us Q I r h
  obtain ⟨a, ns, rfl, hs, hz, q⟩ := h
  obtain ⟨its, rv, hl, _⟩ := I.list hs
  rw [Vals.ref1 r]
  refine set_listT ns (I.ok.hd hc) hl.isList (by simpa using strsAre_of rv) (by unfold scanBound; omega) fun h' tk c R hc k => ?_
  obtain ⟨D, l, h1, h2, h3, h4⟩ := R
  refine ⟨.ref _, upd H s.heap.objs.size (SetTx X.prog X.w s.heap.objs.size l), I.laid (t' := tk) k (Nat.le_refl _) ?_, rfl, q _ l (I.hok.fresh (Nat.le_refl _)) h2.nd h3 (by omega)⟩
  exact ⟨⟨D, h1, h2⟩, ⟨_, h1⟩, fun g1 g2 ⟨D, e1, e2⟩ e => ⟨D, e _ e1, e2⟩⟩
def rSortTx (X : Cx) : List V → Hp → VK → Prop := fun xs H Q => ∃ (a : Addr) (l : List Str), xs = [.ref a] ∧ H a = some (SetTx X.prog X.w a l) ∧ l.length ≤ 1000 ∧ ∀ ys p, ys.Perm l → PyProof.Rows.sortedS ys = true → H p = none → Q (.ref p) (upd H p (.lst (ys.map V.str)))
open PySem.Froz in
theorem cr_sortTx (hcalm : X.calm = true) : CallR X (.builtin "sorted") (rSortTx X) := by
  intro pins s σ H xs us Q I r q
  obtain ⟨a, l, rfl, ha, hz, q⟩ := q
  obtain ⟨u, rfl, rx⟩ := vals1 r
  cases rx
  obtain ⟨⟨⟨es, ep, t⟩, ho, F⟩, _⟩ := I.hok a _ ha
  have hsz : es.size = l.length := F.ok.sz
  refine Calls.call_function_entry PyProof.Rows.kind_sorted PyProof.Rows.plain_sorted PyProof.Rows.entry_sorted (PyProof.Rows.args_sorted1 _) ?_
  unfold Builtin.«sorted»
  refine wpAny_bind (m := checkCount "sorted" 1 1 _) (wpAny_pure ?_)
  refine wpAny_bind (collect_set (A := X.A.in1) (I.ok.hd hcalm) ⟨_, ho, rfl, rfl⟩ F.ok.fit (by rw [hsz]; unfold scanBound; omega) F.ris F.led fun s1 vs k1 hz1 g1' o1 pm => ?_)
  have hvl : vs.length = l.length := by rw [pm.length_eq, List.length_map, Array.length_toList]; exact hsz
  obtain ⟨ks, hS⟩ : ∃ ks, PyProof.Rows.StrsAre vs ks := strs_ex vs fun v hv => by
    obtain ⟨e, he, rfl⟩ := List.mem_map.mp (pm.mem_iff.mp hv)
    obtain ⟨⟨k, hk, _⟩, _⟩ := F.ok.el e he
    obtain ⟨t', ev⟩ := Value.isStrOf_shape (x := k) (v := e.2) hk
    exact ⟨k, t', ev⟩
  have hkl : ks.length = l.length := by rw [← hS.len_eq]; exact hvl
  have hpk : ks.Perm l := perm_sub l ks F.nd (fun k hk => by
    obtain ⟨e, he, h1⟩ := (F.ok.mem k).mp hk
    obtain ⟨t', ev⟩ := Value.isStrOf_shape (x := k) (v := e.2) h1
    obtain ⟨j, hj⟩ := List.mem_iff_getElem?.mp (pm.mem_iff.mpr (List.mem_map_of_mem (f := (·.2)) he))
    obtain ⟨y, t2, e1, e2⟩ := PyProof.Rows.StrsAre.item hS j e.2 hj
    rw [ev] at e1
    cases e1
    exact List.mem_of_getElem? e2) hkl
  have hzl : vs.length ≤ sizeLine := by rw [hvl, sizeLine_eq]; omega
  refine wpAny_bind (wpAny_newList ?_ (by exact hzl))
  have hoL : (s1.heap.push (PyProof.Rows.seqObj "list" vs.toArray 0)).get? s1.heap.objs.size = some (PyProof.Rows.seqObj "list" vs.toArray 0) := Heap.get?_push_size _ rfl
  refine wpAny_bind (wpAny_holding (wpAny_call_entry PyProof.Rows.slot_list_sort ⟨_, hoL, rfl⟩ PyProof.Rows.entry_list_sort
    (PyProof.Rows.list_sort_treeKAny PyProof.Rows.strKind_oneLt (s := { s1 with heap := s1.heap.push (PyProof.Rows.seqObj "list" vs.toArray 0) }) hoL hS.keysOf (fun v₁ v₂ rest e => PyProof.Rows.keyKind_strs (by rw [← e]; exact hS)) hzl fun st' hp hs => ⟨_, rfl, ?_⟩)
    (PyProof.Rows.args_list_sort _)))
  obtain ⟨ys, g1, g2, g3⟩ := PyProof.Rows.sorted_out_str hS hp hs
  obtain ⟨c, hc⟩ := PyProof.Rows.sortedHeap_at (vs := vs) (out := (PyProof.Rows.arrOf st').map (·.2)) hoL
  have hlen : (ys.map V.str).length ≤ sizeLine := by rw [List.length_map, g2.length_eq, hkl, sizeLine_eq]; omega
  have k2 : ∀ b u, s.heap.get? b = some u → (PyProof.Rows.sortedHeap (s1.heap.push (PyProof.Rows.seqObj "list" vs.toArray 0)) s1.heap.objs.size vs ((PyProof.Rows.arrOf st').map (·.2))).get? b = some u := fun b u e => by
    have q := k1 b u e
    have hlt := Heap.lt_size q
    rw [PyProof.Rows.sortedHeap_old (Nat.ne_of_lt hlt) (by rw [PyProof.Rows.size_push']; exact Nat.lt_succ_of_lt hlt)]
    exact Heap.get?_push_of_some _ q
  have hn : H s1.heap.objs.size = none := I.hok.fresh hz1
  generalize hH : PyProof.Rows.sortedHeap (s1.heap.push (PyProof.Rows.seqObj "list" vs.toArray 0)) s1.heap.objs.size vs ((PyProof.Rows.arrOf st').map (·.2)) = hf at *
  have J : Inv X pins σ (upd H s1.heap.objs.size (.lst (ys.map V.str))) { s with heap := hf, gens := s1.gens, drawn := s1.drawn, toks := s1.toks } :=
    I.call (ch := []) (Un.laid k2 hz1 hn) (I.hok.laid k2 hz1 ⟨hlen, ((PyProof.Rows.arrOf st').map (·.2)).toList, c, vals_of_strs g1, by rw [Array.toArray_toList]; exact hc⟩) (by rw [g1']; exact I.bare) (fun _ z => nomatch z)
  have e : ({ s1 with heap := hf } : Shared) = { s with heap := hf, gens := s1.gens, drawn := s1.drawn, toks := s1.toks } := by
    cases s1
    cases s
    cases o1
    rfl
  refine wpAny_pure ⟨_, rfl, ?_⟩
  show EP X pins σ Q (.ref s1.heap.objs.size) ({ s1 with heap := hf } : Shared)
  rw [e]
  exact ⟨.ref s1.heap.objs.size, _, J, rfl, q ys _ (g2.trans hpk) g3 hn⟩
end
def strsOf : List D → Option (List Str)
  | [] => some []
  | .str s :: r => (strsOf r).map fun l => s :: l
  | _ :: _ => none
theorem strsOf_eq : ∀ {xs : List D} {ss : List Str}, strsOf xs = some ss → xs = dStrs ss
  | [], ss, h => by cases h; rfl
  | d :: xs, ss, h => by
    cases d with
    | str s =>
      have h : (strsOf xs).map (fun l => s :: l) = some ss := h
      cases q : strsOf xs with
      | none => rw [q] at h; cases h
      | some l =>
        rw [q] at h
        cases h
        rw [strsOf_eq q]
        rfl
    | _ => cases h
@[simp] theorem strsOf_map : ∀ ss : List Str, strsOf (dStrs ss) = some ss
  | [] => rfl
  | s :: ss => by
    show (strsOf (dStrs ss)).map (fun l => s :: l) = _
    rw [strsOf_map ss]
    rfl
def lsS : D → Option (List Str)
  | .list xs => strsOf xs
  | _ => none
theorem lsS_l (ss : List Str) : lsS (.list (dStrs ss)) = some ss := strsOf_map ss
theorem lsS_eq {d : D} {ss : List Str} (h : lsS d = some ss) : d = .list (dStrs ss) := by
  cases d with
  | list xs => rw [strsOf_eq h]
  | _ => cases h
def obS (o : Option (List Str)) (Q : List Str → Prop) : Prop := match o with
  | some d => Q d
  | none => False
@[simp] theorem obS_s {ss : List Str} {Q : List Str → Prop} : obS (some ss) Q = Q ss := rfl
theorem obS_mono {o : Option (List Str)} {P Q : List Str → Prop} (h : ∀ d, P d → Q d) (k : obS o P) : obS o Q := by
  cases o with
  | none => exact k
  | some d => exact h _ k
/-- each text once -/
def ddS : List Str → List Str
  | [] => []
  | a :: l => if a ∈ ddS l then ddS l else a :: ddS l
theorem ddS_mem : ∀ {l : List Str} {x : Str}, x ∈ ddS l ↔ x ∈ l
  | [], x => Iff.rfl
  | a :: l, x => by
    unfold ddS
    have ih := ddS_mem (l := l) (x := x)
    by_cases c : a ∈ ddS l
    · rw [if_pos c, ih, List.mem_cons]
      constructor
      · exact .inr
      · rintro (h | h)
        · rw [h]; exact ddS_mem.mp c
        · exact h
    · rw [if_neg c, List.mem_cons, List.mem_cons, ih]
theorem ddS_nd : ∀ l : List Str, (ddS l).Nodup
  | [] => List.nodup_nil
  | a :: l => by
    unfold ddS
    by_cases c : a ∈ ddS l
    · rw [if_pos c]; exact ddS_nd l
    · rw [if_neg c]; exact List.nodup_cons.mpr ⟨c, ddS_nd l⟩
theorem ddS_len : ∀ l : List Str, (ddS l).length ≤ l.length
  | [] => Nat.le_refl _
  | a :: l => by
    unfold ddS
    have := ddS_len l
    by_cases c : a ∈ ddS l
    · rw [if_pos c, List.length_cons]; omega
    · rw [if_neg c, List.length_cons, List.length_cons]; omega
theorem nodup_len {l ks : List Str} (h1 : l.Nodup) (h2 : ∀ k ∈ l, k ∈ ks) : l.length ≤ ks.length := by
  induction l generalizing ks with
  | nil => simp
  | cons a l ih =>
    obtain ⟨n1, n2⟩ := List.nodup_cons.mp h1
    have ha := h2 a (by simp)
    have := ih (ks := ks.erase a) n2 fun k hk => (List.mem_erase_of_ne fun z => n1 (by rw [← z]; exact hk)).mpr (h2 k (List.mem_cons_of_mem _ hk))
    rw [List.length_erase_of_mem ha] at this
    have := List.length_pos_of_mem ha
    rw [List.length_cons]
    omega
theorem ddS_perm {l ks : List Str} (h1 : l.Nodup) (h2 : ∀ k, k ∈ l ↔ k ∈ ks) : l.Perm (ddS ks) := by
  have a : (ddS ks).length ≤ l.length := nodup_len (ddS_nd ks) fun k hk => (h2 k).mpr (ddS_mem.mp hk)
  have c : l.length ≤ (ddS ks).length := nodup_len h1 fun k hk => ddS_mem.mpr ((h2 k).mp hk)
  exact perm_sub (ddS ks) l (ddS_nd ks) (fun k hk => (h2 k).mpr (ddS_mem.mp hk)) (by omega)
def ussort (ss : List Str) : List Str := ssort (ddS ss)
theorem ussort_mem {ss : List Str} {x : Str} : x ∈ ussort ss ↔ x ∈ ss := ((ssort_perm _).mem_iff).trans ddS_mem
theorem ussort_nd (ss : List Str) : (ussort ss).Nodup := (ssort_perm _).nodup_iff.mpr (ddS_nd ss)
theorem ussort_len (ss : List Str) : (ussort ss).length ≤ ss.length := by
  unfold ussort
  rw [(ssort_perm _).length_eq]
  exact ddS_len ss
def sSrtSetT (m : SE) : SL := fun env Q => m env fun d => obS (lsS d) fun ss => (ss.length ≤ 1000 ∧ ∀ s ∈ ss, s.length ≤ 16777216) ∧ Q (dStrs (ussort ss))
@[simp] theorem u_sSrtSetT {m : SE} {env : En} {Q : List D → Prop} : sSrtSetT m env Q = (m env fun d => obS (lsS d) fun ss => (ss.length ≤ 1000 ∧ ∀ s ∈ ss, s.length ≤ 16777216) ∧ Q (dStrs (ussort ss))) := rfl
theorem rvs_dStrs {K : Fg} {F : Hp} : ∀ {ss : List Str} {vs : List V}, Rvs K F (dStrs ss) vs → vs = ss.map V.str
  | [], _, h => by cases h; rfl
  | s :: ss, _, h => by
    cases h with
    | cons a t =>
      cases a
      rw [rvs_dStrs t]
      rfl
section
variable {X : Cx} {b b' : Bool} {a c e o : Expr} {ma mc me : SE} {pos apos cpos npos : Pos}
theorem mf_srtSetT {p p2 pos2 : Pos} (hc : X.calm = true) (hg : Gl X "sorted") (hm : X.mg "sorted" = none) (hg2 : Gl X "set") (hm2 : X.mg "set" = none) (ha : ME X true a ma) (he : starEach [a] X.env = (false, eval a X.env) :: starEach [] X.env := by rfl) (hpl : (backTo pos2 (starEach [] X.env)).any (·.1) = false := by rfl)
    (he2 : starEach [Expr.Call (.Name "set" p2) [a] [] pos2] X.env = (false, eval (Expr.Call (.Name "set" p2) [a] [] pos2) X.env) :: starEach [] X.env := by rfl) (hpl2 : (backTo pos (starEach [] X.env)).any (·.1) = false := by rfl) :
    MF X (.Call (.Name "sorted" p) [.Call (.Name "set" p2) [a] [] pos2] [] pos) (sSrtSetT ma) := by
  have p1 := pe_callTy (p := p2) (pos := pos2) (cr_setTx hc) hg2 hm2 (by decide +kernel) (pa_cons ha.run pa_nil he) (by decide) (by decide) he hpl
  refine ⟨⟨fun pins s σ H Q I hq => (pe_callB (cr_sortTx hc) hg hm (by decide +kernel) (pa_cons p1 pa_nil he2) (by decide) (by decide) he2 hpl2).run pins s σ H Q I ?_⟩, fun env P Q k hp => ha.mono _ _ _ (fun d h1 => obS_mono (fun ns h => ⟨h.1, k _ h.2⟩) h1) hp⟩
  obtain ⟨y, dr, F, env, re, hm⟩ := hq
  refine ⟨y, dr, F, env, re, ha.mono _ _ _ (fun d1 h1 v1 H1 F1 r1 s1 w1 => ?_) hm⟩
  cases q : lsS d1 with
  | none => rw [q] at h1; exact h1.elim
  | some ss =>
    rw [q] at h1
    obtain ⟨hl, h1⟩ := h1
    have e := lsS_eq q
    subst e
    obtain ⟨a1, vs, rfl, e1, z1, rv⟩ := w1.list r1
    rw [rvs_dStrs rv] at e1
    refine ⟨a1, ss, rfl, SqL.of e1, hl.1, fun p l hp nd hmem hll => ?_⟩
    refine ⟨p, l, rfl, upd_same, by omega, fun ys p' o1 o2 hp' => ?_⟩
    have ey : ys = ussort ss := ssort_uniq (o1.trans (ddS_perm nd hmem)) (sorted_so o2)
    subst ey
    have hz : (dStrs (ussort ss)).length ≤ sizeLine := by
      have := ussort_len ss
      unfold dStrs
      rw [List.length_map, sizeLine_eq]; omega
    exact new_lst (r1.grown hp) (s1.trans (Ex.grown hp)) hp' (rvs_strs fun s hs => by rw [sizeLine_eq]; exact hl.2 s (ussort_mem.mp hs)) hz h1
end
end Mi

namespace Mi
open PySem PySem.Spec L2
/-! ### one new list or another -/
def sIfL (t : SB) (ma mc : SL) : SL := fun env Q => t env fun k => if k = true then ma env Q else mc env Q
@[simp] theorem u_sIfL {t : SB} {ma mc : SL} {env : En} {Q : List D → Prop} : sIfL t ma mc env Q = (t env fun k => if k = true then ma env Q else mc env Q) := rfl
theorem mf_if {X : Cx} {t a c : Expr} {pos : Pos} {tt : SB} {ma mc : SL} (ht : MT X t tt) (ha : MF X a ma) (hc : MF X c mc) : MF X (.IfExp t a c pos) (sIfL tt ma mc) := by
  refine ⟨⟨fun pins s σ H Q I h => (pe_ifExp ht.run ha.run hc.run).run pins s σ H Q I ?_⟩, fun env P Q k h => ht.mono _ _ _ (fun d h1 => ?_) h⟩
  · obtain ⟨y, dr, F, env, re, hm⟩ := h
    refine ⟨y, dr, F, env, re, ht.mono _ _ _ (fun d hd H' F' r1 s1 => ?_) hm⟩
    cases d with
    | true =>
      rw [if_pos rfl] at hd ⊢
      exact ⟨y, dr, F', env, r1, ha.mono _ _ _ (fun xs h2 p vs H2 F2 r2 s2 e1 e2 e3 e4 => h2 p vs H2 F2 r2 (s1.trans s2) e1 e2 e3 e4) hd⟩
    | false =>
      rw [if_neg Bool.false_ne_true] at hd ⊢
      exact ⟨y, dr, F', env, r1, hc.mono _ _ _ (fun xs h2 p vs H2 F2 r2 s2 e1 e2 e3 e4 => h2 p vs H2 F2 r2 (s1.trans s2) e1 e2 e3 e4) hd⟩
  · cases d with
    | true => rw [if_pos rfl] at h1 ⊢; exact ha.mono _ _ _ k h1
    | false => rw [if_neg Bool.false_ne_true] at h1 ⊢; exact hc.mono _ _ _ k h1
end Mi

namespace Mi
open PySem PySem.Spec L2
/-! ### sorted(set(xs)) of a list or a tuple of texts -/
open PyProof.Rows in
set_option maxHeartbeats 3200000 in
theorem set_tupleT {P : Program} {w : World} {A : Around} {E : Value → Shared → Prop} {s : Shared} {l : Addr} {its : Array Value} (ns : List Str) {Q : Value → Shared → Prop} (hh : A.handled = none) (hl : s.heap.IsTuple l its) (hi : StrsAre its.toList ns) (hb : ns.length + 1 < scanBound)
    (h : ∀ (h' : Heap) (tk c : Nat), SetT P w h' s.heap.objs.size ns c → c ≤ ns.length → (∀ b o, s.heap.get? b = some o → h'.get? b = some o) → Q (.ref s.heap.objs.size) { s with heap := h', toks := tk }) :
    wpAny (model P w) A (call (.type "set") [.ref l]) Q E s := by
  have hsz : its.size = ns.length := by
    rw [← hi.length, Array.length_toList]
  obtain ⟨c, tl, hmro⟩ := F.called_set.mro
  have m1 := F.called_set.made
  have m2 := F.called_set.sub
  have m3 := F.called_set.notType
  have m4 := F.called_set.canCreate
  have m5 := F.typeCall_set_1 (.ref l)
  apply wpAny_call
  apply codeAny_of_tree
  show wpAny _ _ (callAny (.type "set")
    _) _ _ _
  apply wpAny_pure
  refine ⟨Code.quiet_builtin _ (by decide +kernel), ?_⟩
  apply codeAny_builtin F.entry_type_call
  rw [Around.under_plain
    (weight_type_call_type "set" [.ref l] []) rfl]
  repeat (any_goals (first | assumption | wp_step))
  refine codeAny_mono (code_set_led1 (.ref l) (E := E) (Q₁ := fun obj s₁ => obj = .ref s.heap.objs.size ∧ s₁ = { s with heap := s.heap.push (eSet w) }) ⟨rfl, rfl⟩) ?_
  intro r s₁ hr
  cases r with
  | error e => exact hr
  | ok fl =>
    cases fl with
    | ret obj =>
      obtain ⟨rfl, rfl⟩ := hr
      have hS : (s.heap.push (eSet w)).get? s.heap.objs.size = some (eSet w) := Heap.get?_push_size _ rfl
      have hT : Shared.TypeIs { s with heap := s.heap.push (eSet w) } (.ref s.heap.objs.size) "set" := ⟨_, hS, rfl⟩
      have m6 := F.called_set.init.lookup
      have m7 := F.called_set.init.bind (.ref s.heap.objs.size)
      repeat (any_goals (first | assumption | wp_step))
      refine codeAny_mono (codeAny_call_builtin (R := wants (fun r s₂ => r = .none ∧ ∃ h' tk c, s₂ = { s with heap := h', toks := tk } ∧ SetT P w h' s.heap.objs.size ns c ∧ c ≤ ns.length ∧ (∀ b o, s.heap.get? b = some o → h'.get? b = some o)) E) F.called_set.init.plain F.entry_set_init (check_set_init_1 hT ?_)) ?_
      · obtain ⟨ol, hol, hcl, nl, hdl⟩ := hl
        obtain ⟨oc, od, odt, osl⟩ := ol
        simp only at hcl hdl
        subst hcl
        subst hdl
        have hl0 : (s.heap.push (eSet w)).get? l = some { cls := .type "tuple", dict := od, data := .seq its nl, slots := osl } := Heap.get?_push_of_some _ hol
        have n1 := F.sub_tuple_set
        have n2 := F.sub_tuple_frozenset
        have n3 : (Value.type "tuple" == Value.type "dict") = false := by decide
        have hl1 : (s.heap.push (eSet w)).IsTuple l its := ⟨_, hl0, rfl, nl, rfl⟩
        unfold Builtin.«set.__init__»
        unfold noKeywords
        unfold Builtin.Frozenset.updateFrom
        generalize hPI : pyIter = PI
        wp_walk
        subst hPI
        apply wpAny_pyIter_tuple hl1
        apply wpAny_bind
        apply wpAny_runValue
        have p1 : l < s.heap.objs.size := Heap.lt_size hol
        have p2 : A.in1.in1.in1.handled = none := by simp [hh]
        have p3 : (s.heap.push (eSet w)).objs.size = s.heap.objs.size + 1 := Heap.size_push ..
        have p4 : l ≠ (s.heap.push (eSet w)).objs.size := by rw [p3]; exact Nat.ne_of_lt (Nat.lt_succ_of_lt p1)
        have p5 : s.heap.objs.size ∉ [(s.heap.push (eSet w)).objs.size, l] := by
          rw [p3]
          intro z
          rcases List.mem_cons.mp z with z | z
          · exact Nat.ne_of_lt (Nat.lt_succ_self _) z
          · exact Nat.ne_of_gt p1 (List.mem_singleton.mp z)
        have p6 : ∀ (i : Nat) (v : Value), its[i]? = some v → ∃ k t, ns[i]? = some k ∧ v = .str k t := fun i v hv => by
          have hin : i < ns.length := by rw [← hsz]; exact (Array.getElem?_eq_some_iff.mp hv).1
          obtain ⟨y, t, e1, e2⟩ := StrsAre.item hi i v (by rw [Array.getElem?_toList]; exact hv)
          exact ⟨y, t, e2, e1⟩
        refine set_update_txts ((Walks.tuple p2 _ l p4 its).toS) s.heap.objs.size p5 ns hsz hb p6 (its.size - 0) 0 _ (by omega) (Nat.zero_le _) ⟨⟨_, Heap.get?_push_size _ rfl, rfl, rfl⟩, hl1.push _⟩ ⟨0, Nat.le_refl 0, setT_new_at (Heap.get?_push_of_some _ hS)⟩ ?_
        rintro ⟨h', g2, d', tk', os'⟩ c' hm hc' hS'
        have eg : g2 = s.gens := hm.gens
        have ed : d' = s.drawn := hm.drawn
        have eo : os' = s.os := hm.os
        subst eg ed eo
        show wpAny _ _ _ _ _ _
        apply wpAny_pure
        show wpAny _ _ (ret Value.none)
          _ _ _
        refine wpAny_pure ⟨rfl, h', tk', c', rfl, hS', by omega, fun b o e => ?_⟩
        have b0 : b < s.heap.objs.size := Heap.lt_size e
        refine hm.heap b o (fun z => ?_) (Heap.get?_push_of_some _ (Heap.get?_push_of_some _ e))
        rcases List.mem_cons.mp z with z | z
        · exact Nat.ne_of_lt b0 z
        · rw [p3] at z
          exact Nat.ne_of_lt (Nat.lt_succ_of_lt b0) (List.mem_singleton.mp z)
      · intro r₂ s₂ hr₂
        cases r₂ with
        | error e => exact hr₂
        | ok fl₂ =>
          cases fl₂ with
          | ret r =>
            obtain ⟨rfl, h', tk, c, rfl, hS', hc', hk'⟩ := hr₂
            repeat (any_goals (first | assumption | wp_step))
            exact h _ _ c hS' hc' hk'
          | _ => exact hr₂.elim
    | _ => exact hr.elim

section
variable {X : Cx}
def rSetTx2 (X : Cx) : List V → Hp → VK → Prop := fun xs H Q => ∃ (a : Addr) (ns : List Str), xs = [.ref a] ∧ (SqL X.G H a (ns.map V.str) ∨ SqT X.G H a (ns.map V.str)) ∧ ns.length ≤ 1000 ∧ ∀ p l, H p = none → l.Nodup → (∀ k, k ∈ l ↔ k ∈ ns) → l.length ≤ ns.length → Q (.ref p) (upd H p (SetTx X.prog X.w p l))
theorem cr_setTx2 (hc : X.calm = true) : CallR X (.type "set") (rSetTx2 X) := by
  intro pins s σ H vs us Q I r h
  obtain ⟨a, ns, e, hs | hs, hz, q⟩ := h
  · exact cr_setTx hc pins s σ H vs us Q I r ⟨a, ns, e, hs, hz, q⟩
  subst e
  obtain ⟨its, rv, hl, _⟩ := I.tuple hs
  rw [Vals.ref1 r]
  refine set_tupleT ns (I.ok.hd hc) hl (by simpa using strsAre_of rv) (by unfold scanBound; omega) fun h' tk c R hc k => ?_
  obtain ⟨D, l, h1, h2, h3, h4⟩ := R
  refine ⟨.ref _, upd H s.heap.objs.size (SetTx X.prog X.w s.heap.objs.size l), I.laid (t' := tk) k (Nat.le_refl _) ?_, rfl, q _ l (I.hok.fresh (Nat.le_refl _)) h2.nd h3 (by omega)⟩
  exact ⟨⟨D, h1, h2⟩, ⟨_, h1⟩, fun g1 g2 ⟨D, e1, e2⟩ e => ⟨D, e _ e1, e2⟩⟩
end
def sqS (d : D) : Option (List Str) := match seqOf d with
  | some xs => strsOf xs
  | none => none
@[simp] theorem sqS_l (ss : List Str) : sqS (.list (dStrs ss)) = some ss := strsOf_map ss
@[simp] theorem sqS_t (ss : List Str) : sqS (.tuple (dStrs ss)) = some ss := strsOf_map ss
theorem sqS_eq {d : D} {ss : List Str} (h : sqS d = some ss) : seqOf d = some (dStrs ss) := by
  unfold sqS at h
  cases q : seqOf d with
  | none => rw [q] at h; cases h
  | some xs => rw [q] at h; rw [strsOf_eq h]
def sSrtSetU (m : SE) : SL := fun env Q => m env fun d => obS (sqS d) fun ss => (ss.length ≤ 1000 ∧ ∀ s ∈ ss, s.length ≤ 16777216) ∧ Q (dStrs (ussort ss))
@[simp] theorem u_sSrtSetU {m : SE} {env : En} {Q : List D → Prop} : sSrtSetU m env Q = (m env fun d => obS (sqS d) fun ss => (ss.length ≤ 1000 ∧ ∀ s ∈ ss, s.length ≤ 16777216) ∧ Q (dStrs (ussort ss))) := rfl
section
variable {X : Cx} {b b' : Bool} {a c e o : Expr} {ma mc me : SE} {pos apos cpos npos : Pos}
theorem mf_srtSetU {p p2 pos2 : Pos} (hc : X.calm = true) (hg : Gl X "sorted") (hm : X.mg "sorted" = none) (hg2 : Gl X "set") (hm2 : X.mg "set" = none) (ha : ME X true a ma) (he : starEach [a] X.env = (false, eval a X.env) :: starEach [] X.env := by rfl) (hpl : (backTo pos2 (starEach [] X.env)).any (·.1) = false := by rfl)
    (he2 : starEach [Expr.Call (.Name "set" p2) [a] [] pos2] X.env = (false, eval (Expr.Call (.Name "set" p2) [a] [] pos2) X.env) :: starEach [] X.env := by rfl) (hpl2 : (backTo pos (starEach [] X.env)).any (·.1) = false := by rfl) :
    MF X (.Call (.Name "sorted" p) [.Call (.Name "set" p2) [a] [] pos2] [] pos) (sSrtSetU ma) := by
  have p1 := pe_callTy (p := p2) (pos := pos2) (cr_setTx2 hc) hg2 hm2 (by decide +kernel) (pa_cons ha.run pa_nil he) (by decide) (by decide) he hpl
  refine ⟨⟨fun pins s σ H Q I hq => (pe_callB (cr_sortTx hc) hg hm (by decide +kernel) (pa_cons p1 pa_nil he2) (by decide) (by decide) he2 hpl2).run pins s σ H Q I ?_⟩, fun env P Q k hp => ha.mono _ _ _ (fun d h1 => obS_mono (fun ns h => ⟨h.1, k _ h.2⟩) h1) hp⟩
  obtain ⟨y, dr, F, env, re, hm⟩ := hq
  refine ⟨y, dr, F, env, re, ha.mono _ _ _ (fun d1 h1 v1 H1 F1 r1 s1 w1 => ?_) hm⟩
  cases q : sqS d1 with
  | none => rw [q] at h1; exact h1.elim
  | some ss =>
    rw [q] at h1
    obtain ⟨hl, h1⟩ := h1
    obtain ⟨a1, vs, rfl, e1, z1, rv⟩ := seq_of r1 w1 (sqS_eq q)
    rw [rvs_dStrs rv] at e1
    refine ⟨a1, ss, rfl, e1, hl.1, fun p l hp nd hmem hll => ?_⟩
    refine ⟨p, l, rfl, upd_same, by omega, fun ys p' o1 o2 hp' => ?_⟩
    have ey : ys = ussort ss := ssort_uniq (o1.trans (ddS_perm nd hmem)) (sorted_so o2)
    subst ey
    have hz : (dStrs (ussort ss)).length ≤ sizeLine := by
      have := ussort_len ss
      unfold dStrs
      rw [List.length_map, sizeLine_eq]; omega
    exact new_lst (r1.grown hp) (s1.trans (Ex.grown hp)) hp' (rvs_strs fun s hs => by rw [sizeLine_eq]; exact hl.2 s (ussort_mem.mp hs)) hz h1
end
/-! ### d == e, d != e: dicts with keys of numbers and texts, values laid in rows -/
def shpK (kvs : List (Key × D)) : Bool := kvs.all fun p => SeqAt.shaped p.2
def hitG (kws : List (Key × D)) (p : Key × D) : Bool := match getG kws p.1 with
  | some d => PyData.eqv p.2 d
  | none => false
def kdEq (kvs kws : List (Key × D)) : Bool := kvs.length == kws.length && kvs.all (hitG kws)
def eqK (neg : Bool) (x z : D) : Option D := (asLk x).bind fun kvs => (asLk z).bind fun kws => if (shpK kvs && shpK kws) = true then some (.bool (if neg then !kdEq kvs kws else kdEq kvs kws)) else none
@[simp] theorem eqK_lk {neg : Bool} {kvs kws : List (Key × D)} : eqK neg (lkD kvs) (lkD kws) = if (shpK kvs && shpK kws) = true then some (.bool (if neg then !kdEq kvs kws else kdEq kvs kws)) else none := by
  unfold eqK
  rw [asLk_lk, asLk_lk]
  rfl
def Dks (K : Fg) (H : Hp) (kws : List (Key × V)) (kvs : List (Key × D)) : Prop := Paired (fun (p : Key × V) (q : Key × D) => p.1 = q.1 ∧ Dp K H p.2 q.2 ∧ SeqAt.shaped q.2 = true) kws kvs
theorem dks_rks {K : Fg} {y : Cy} {dr : Option Addr} {F H : Hp} {env : En} {σ : L2.St} (re : Re K y dr F env σ H) : ∀ {kvs : List (Key × D)} {kws : List (Key × V)}, Rks K F (kdD kvs) kws → shpK kvs = true → Dks K H kws kvs
  | [], _, h, _ => by cases h; exact .nil
  | (k, d) :: r, kws, h, hs => by
    obtain ⟨k', v, vs, e, rfl, rv, h3⟩ := rks_inv h
    have e := kD_inj e
    subst e
    unfold shpK at hs
    rw [List.all_cons, Bool.and_eq_true] at hs
    exact .cons ⟨rfl, (show Vr K false F env σ d v from .inl rv).dp re (lay_shaped hs.1), hs.2 ▸ hs.1⟩ (dks_rks re h3 hs.2)
def rKq (neg : Bool) (K : Fg) : R2 := fun x y H Q => ∃ a b o o' ks ls A B, x = .ref a ∧ y = .ref b ∧ H a = some (.frz o (.dK ks)) ∧ H b = some (.frz o' (.dK ls)) ∧ Dks K H ks A ∧ Dks K H ls B ∧ Q (.bl (if neg then !kdEq A B else kdEq A B)) H
section
variable {X : Cx}
theorem dks_val {K : Fg} {H : Hp} (k : Key) : ∀ {ls : List (Key × V)} {B : List (Key × D)}, Dks K H ls B → (∃ v d, valV ls k = some v ∧ getG B k = some d ∧ Dp K H v d ∧ SeqAt.shaped d = true) ∨ (valV ls k = none ∧ getG B k = none) := by
  intro ls B h
  unfold Dks at h
  induction h with
  | nil => exact .inr ⟨rfl, rfl⟩
  | @cons p q ps qs h t ih =>
    obtain ⟨k1, v⟩ := p
    obtain ⟨k2, d⟩ := q
    obtain ⟨e, h2, h3⟩ := h
    have e : k1 = k2 := e
    subst e
    by_cases c : k1 = k
    · exact .inl ⟨v, d, by unfold valV; simp [c], by unfold getG; simp [c], h2, h3⟩
    · rcases ih with ⟨v', d', g1, g2, g3⟩ | ⟨g1, g2⟩
      · exact .inl ⟨v', d', by unfold valV at *; simp [c]; simpa using g1, by unfold getG at *; simp [c]; simpa using g2, g3⟩
      · exact .inr ⟨by unfold valV at *; simp [c]; simpa using g1, by unfold getG at *; simp [c]; simpa using g2⟩
theorem hits_kq {pins : List (Addr × Obj)} {σ : L2.St} {H : Hp} {s : Shared} (I : Inv X pins σ H s) (hu : X.A.units + 65 < cLine) {ls : List (Key × V)} {B : List (Key × D)} {vb : List (Key × Value)} (rb : KV ls vb) (hb : Dks X.G H ls B) :
    ∀ {ks : List (Key × V)} {A : List (Key × D)} {va : List (Key × Value)}, KV ks va → Dks X.G H ks A → PySem.W.KeqHits X.A.in1 s vb va (A.all (hitG B)) := by
  intro ks A va ra ha
  unfold KV at ra
  unfold Dks at ha
  induction ha generalizing va with
  | nil => cases ra; exact .nil
  | @cons p q ps qs h t ih =>
    cases ra with
    | @cons _ q' _ vs' h' t' =>
      obtain ⟨k1, v⟩ := p
      obtain ⟨k2, d⟩ := q
      obtain ⟨k3, u⟩ := q'
      obtain ⟨e1, h1⟩ := h'
      have e1 : k1 = k3 := e1
      obtain ⟨e2, h2, h3⟩ := h
      have e2 : k1 = k2 := e2
      subst e1 e2
      rw [List.all_cons]
      have rr := rb.val k1
      rcases dks_val k1 hb with ⟨v', d', g1, g2, g3, g4⟩ | ⟨g1, g2⟩
      · rw [g1] at rr
        obtain ⟨y, hy, ry⟩ := RelO.some_of rr
        have : hitG B (k1, d) = PyData.eqv d d' := by unfold hitG; simp only [g2]
        rw [this]
        obtain ⟨as, r1⟩ := Dp.reads I d v u h2 h1
        obtain ⟨bs, r2⟩ := Dp.reads I d' v' y g3 ry
        exact .hit hy (PySem.W.keq_at r1 r2 h3 g4 (by show X.A.units + 1 + 64 < cLine; omega)) (ih t')
      · rw [g1] at rr
        have : hitG B (k1, d) = false := by unfold hitG; simp only [g2]
        rw [this, Bool.false_and]
        refine .miss ?_
        cases q : valueAt vb k1 with
        | none => rfl
        | some y => rw [q] at rr; exact rr.elim
theorem op_kqE (hu : X.A.units + 65 < cLine) : OpR X (compareOp .Eq) (rKq false X.G) := by
  intro pins s σ H x y v u Q I rx ry h
  obtain ⟨a, b, o, o', ks, ls, A, B, rfl, rfl, ea, eb, ka, kb, q⟩ := h
  obtain rfl : v = Value.ref a := rx
  obtain rfl : u = Value.ref b := ry
  obtain ⟨_, _, ya, va, ra, da⟩ := (show ObjOk X.prog X.w H s.heap a (.frz o (.dK ks)) from I.hok a _ ea)
  obtain ⟨_, _, yb, vb, rb, db⟩ := (show ObjOk X.prog X.w H s.heap b (.frz o' (.dK ls)) from I.hok b _ eb)
  have e1 : va.length = A.length := by rw [← ra.length]; exact Paired.length ka
  have e2 : vb.length = B.length := by rw [← rb.length]; exact Paired.length kb
  exact PySem.W.keq_eq (knd := mixKind X.prog X.w) (r := A.all (hitG B)) ya yb da db (by omega) (fun _ => hits_kq I hu rb kb ra ka) (fin_bl I q (by rw [e1, e2]; rfl))
theorem op_kqN (hu : X.A.units + 65 < cLine) : OpR X (compareOp .NotEq) (rKq true X.G) := by
  intro pins s σ H x y v u Q I rx ry h
  obtain ⟨a, b, o, o', ks, ls, A, B, rfl, rfl, ea, eb, ka, kb, q⟩ := h
  obtain rfl : v = Value.ref a := rx
  obtain rfl : u = Value.ref b := ry
  obtain ⟨_, _, ya, va, ra, da⟩ := (show ObjOk X.prog X.w H s.heap a (.frz o (.dK ks)) from I.hok a _ ea)
  obtain ⟨_, _, yb, vb, rb, db⟩ := (show ObjOk X.prog X.w H s.heap b (.frz o' (.dK ls)) from I.hok b _ eb)
  have e1 : va.length = A.length := by rw [← ra.length]; exact Paired.length ka
  have e2 : vb.length = B.length := by rw [← rb.length]; exact Paired.length kb
  exact PySem.W.keq_ne (knd := mixKind X.prog X.w) (r := A.all (hitG B)) ya yb da db (by omega) (fun _ => hits_kq I hu rb kb ra ka) (fin_bl I q (by rw [e1, e2]; rfl))
theorem ok_kq {b neg : Bool} : Ok2 X b (eqK neg) (rKq neg X.G) := by
  intro y dr F env σ H d1 d2 d v1 v2 Q re w1 w2 e k
  unfold eqK at e
  cases q1 : asLk d1 with
  | none => rw [q1] at e; cases e
  | some kvs =>
    cases q2 : asLk d2 with
    | none => rw [q1, q2] at e; cases e
    | some kws =>
      rw [q1, q2] at e
      have e : (if (shpK kvs && shpK kws) = true then some (PyData.bool (if neg then !kdEq kvs kws else kdEq kvs kws)) else none) = some d := e
      split at e
      · rename_i c
        rw [Bool.and_eq_true] at c
        cases e
        obtain ⟨p, o, ks, rfl, e1, r1⟩ := w1.asLk re q1
        obtain ⟨p', o', ls, rfl, e2, r2⟩ := w2.asLk re q2
        exact ⟨p, p', o, o', ks, ls, kvs, kws, rfl, rfl, re.rf.sub _ _ e1, re.rf.sub _ _ e2, dks_rks re r1 c.1, dks_rks re r2 c.2, k _ H F re Ex.refl (.bl _)⟩
      · cases e
theorem c_kqE {b : Bool} (hu : X.A.units + 65 < cLine) : CmpOk X b .Eq (eqK false) := ⟨_, op_kqE hu, ok_kq⟩
theorem c_kqN {b : Bool} (hu : X.A.units + 65 < cLine) : CmpOk X b .NotEq (eqK true) := ⟨_, op_kqN hu, ok_kq⟩
end
end Mi

namespace Mi
open PySem PySem.Spec L2
/-! ### the program by places -/
def top (i : Nat) : Stmt := PySem.Challenge.pw_jobwarden_k27_chains_that_stretch.main.body.getD i (.Pass ⟨0, 0, 0, 0⟩)
abbrev sDr : Stmt := top 12
abbrev sNx : Stmt := top 13
structure Bt (K : Fg) (mg : Str → Option Value) : Prop where
  b_abs : mg "abs" = none
  b_all : mg "all" = none
  b_any : mg "any" = none
  b_bool : mg "bool" = none
  b_dict : mg "dict" = none
  b_int : mg "int" = none
  b_isinstance : mg "isinstance" = none
  b_len : mg "len" = none
  b_list : mg "list" = none
  b_max : mg "max" = none
  b_min : mg "min" = none
  b_range : mg "range" = none
  b_set : mg "set" = none
  b_sorted : mg "sorted" = none
  b_str : mg "str" = none
  b_tuple : mg "tuple" = none
  b_zip : mg "zip" = none
section
variable {P : Program} {w : World} {K : PySem.W.Frag} {mg : Str → Option Value} {base : Heap}
theorem scNx : FnScope ["draw", "many", "found", "cell"] ["draw", "many"] (defScope sNx) := ⟨rfl, rfl, rfl, by decide +kernel, rfl, by decide +kernel, by decide +kernel⟩
theorem rd0 {σ : L2.St} {H : Hp} {a : Addr} {xs : List V} {v : V} (i : Nat) {Q : VK} (h0 : σ[0]? = some (some (.ref a))) (hH : H a = some (.lst xs)) (hv : xs[i]? = some v) (q : Q v H) : tOp (rIxL K) (tVar 0) (tC (.int (i : Int))) σ H Q :=
  ⟨.ref a, h0, ⟨a, xs, _, v, rfl, rfl, SqL.of hH, atI_nat hv, q⟩⟩
theorem st0 {σ : L2.St} {H : Hp} {a : Addr} {xs : List V} {v : V} (i : Nat) {Q : L2.St → Hp → Prop} (h0 : σ[0]? = some (some (.ref a))) (hH : H a = some (.lst xs)) (hi : i < xs.length) (q : Q σ (upd H a (.lst (xs.set i v)))) : gSub (tVar 0) (tC (.int (i : Int))) rSetL v σ H Q :=
  ⟨.ref a, h0, a, xs, (i : Int), i, rfl, rfl, hH, by unfold ixN; rw [if_pos (Int.natCast_nonneg i), if_pos (by omega)]; simp, q⟩
theorem int1 {H : Hp} {i : Int} {Q : VK} (q : Q (.int i) H) : (∃ j, [V.int i] = [V.int j] ∧ Q (.int j) H) ∨ ∃ k, [V.int i] = [V.bl k] ∧ Q (.int (if k then 1 else 0)) H := .inl ⟨i, rfl, q⟩
theorem nx_end {a l : Addr} {ns : List Int} {p c s p' c' s' k n : Int} {F H : Hp} {Q : VK} (hF : Same F H) (hFa : F a = none) (hH : H a = some (.lst [.ref l, .int p, .int c, .int s])) (hl : F l = some (.lst (ns.map V.int)))
    (kq : ∀ n H', 0 ≤ n → n < k → Same F H' → DrOk F H' a → (∀ b, b ≠ a → H' b = H b) → Q (.int n) H') (n0 : 0 ≤ n) (n1 : n < k) (h1 : 0 ≤ p') (h2 : 0 ≤ c') (h3 : 0 ≤ s') (h4 : s' < 2147483648) {H' : Hp} (hH' : H' a = some (.lst [.ref l, .int p', .int c', .int s'])) (hb : ∀ b, b ≠ a → H' b = H b) : Q (.int n) H' :=
  kq n H' n0 n1 (fun b o e => by rw [hb b fun z => by rw [z, hFa] at e; cases e]; exact hF b o e) ⟨l, ns, p', c', s', hH', hl, h1, h2, h3, h4⟩ hb
set_option maxHeartbeats 4000000 in
theorem ok_next {f : Addr} {fd : FuncData} (F : Fun K "_law_next" "_law_next" sNx f fd) (B : BtN mg) : FnOk P w K mg base CX0 1 f fd ["draw", "many"] spNext := by
  refine F.ok scNx (fun vs H Q E h => ?_) (fun cdv A outer s H vs Q E hr h => ?_)
  · obtain ⟨a, k, F0, rfl, _⟩ := h
    rfl
  · obtain ⟨a, k, F0, rfl, hF, hFa, ⟨l, ns, p, c, sd, hH, hl, p0, c0, s0, s1⟩, k0, k1, kq⟩ := h
    have fin := fun {n p' c' s' : Int} => nx_end (n := n) (p' := p') (c' := c') (s' := s') hF hFa hH hl kq
    refine ⟨_, pss_cons (ps_if (pt_cmpR op_gt (pe_ix ix_list (pv 0) pe_int (fun _ _ => rfl)) pe_int (nomark _))
        (pss_cons (ps_set (i := 2) scNx.nd rfl (.inl rfl) (pe_op op_mod (pe_callTy call_int1 (by rfl) B.int (by decide +kernel) (pa_cons (pe_ix ix_list (pv 0) pe_int (fun _ _ => rfl)) pa_nil)) (pv 1)))
        (pss_cons (ps_asg (pe_op op_fdiv (pe_ix ix_list (pv 0) pe_int (fun _ _ => rfl)) (pv 1)) (pg_sub (pv 0) pe_int set_list))
        (pss_one (ps_ret (pv 2))))) pss_nil)
      (pss_cons (ps_if (pt_cmpR op_lt (pe_ix ix_list (pv 0) pe_int (fun _ _ => rfl)) (pe_callB call_len_seq (by rfl) B.len PySem.boot_len (pa_cons (pe_ix ix_list (pv 0) pe_int (fun _ _ => rfl)) pa_nil)) (nomark _))
        (pss_cons (ps_set (i := 3) scNx.nd rfl (.inl rfl) (pe_callB call_abs (by rfl) B.abs (by decide +kernel) (pa_cons (pe_ix ix_list (pe_ix ix_list (pv 0) pe_int (fun _ _ => rfl)) (pe_ix ix_list (pv 0) pe_int (fun _ _ => rfl)) (fun _ _ => rfl)) pa_nil)))
        (pss_cons (ps_asg (pe_op op_add (pe_ix ix_list (pv 0) pe_int (fun _ _ => rfl)) pe_int) (pg_sub (pv 0) pe_int set_list))
        (pss_cons (ps_if (pt_cmpR op_ge (pv 3) (pe_op op_pow pe_int pe_int) (nomark _))
          (pss_cons (ps_asg (pe_op op_fdiv (pv 3) (pv 1)) (pg_sub (pv 0) pe_int set_list))
          (pss_one (ps_ret (pe_op op_mod (pe_callTy call_int1 (by rfl) B.int (by decide +kernel) (pa_cons (pv 3) pa_nil)) (pv 1))))) pss_nil)
        (pss_one (ps_asg (pe_op op_mod (pe_callTy call_int1 (by rfl) B.int (by decide +kernel) (pa_cons (pe_op op_add (pe_op op_add (pe_op op_mul (pe_ix ix_list (pv 0) pe_int (fun _ _ => rfl)) pe_int) (pv 3)) pe_int) pa_nil)) pe_int) (pg_sub (pv 0) pe_int set_list))))))
        (pss_one (ps_asg (pe_op op_mod (pe_callTy call_int1 (by rfl) B.int (by decide +kernel) (pa_cons (pe_op op_add (pe_op op_mul (pe_ix ix_list (pv 0) pe_int (fun _ _ => rfl)) pe_int) pe_int) pa_nil)) pe_int) (pg_sub (pv 0) pe_int set_list))))
      (pss_one (ps_ret (pe_op op_mod (pe_op op_fdiv (pe_callTy call_int1 (by rfl) B.int (by decide +kernel) (pa_cons (pe_op op_mod (pe_op op_mul (pe_ix ix_list (pv 0) pe_int (fun _ _ => rfl)) pe_int) pe_int) pa_nil)) pe_int) (pv 1))))), ?_⟩
    -- if draw[2] > 0
    refine rd0 2 rfl hH rfl ⟨_, _, rfl, rfl, _, rfl, ?_⟩
    refine ite2 (fun hc => ?_) (fun hc => ?_)
    · refine rd0 2 rfl hH rfl (.inl ⟨_, rfl, _, rfl, _, _, rfl, rfl, k0, ?_⟩)
      refine rd0 2 rfl hH rfl ⟨_, rfl, _, _, rfl, rfl, ⟨k0, k1⟩, ?_⟩
      refine st0 2 rfl hH (by simp) ⟨_, rfl, ?_⟩
      have hc : 0 < c := of_decide_eq_true hc
      exact fin (Int.emod_nonneg _ (by omega)) (Int.emod_lt_of_pos _ k0) p0 (Int.ediv_nonneg (by omega) (by omega)) s0 s1 upd_same fun b hb => upd_ne hb
    · -- the last row
      have last : ∀ (σ : L2.St) (H1 : Hp) (p' s' : Int), σ[0]? = some (some (.ref a)) → σ[1]? = some (some (.int k)) → H1 a = some (.lst [.ref l, .int p', .int c, .int s']) → 0 ≤ p' → 0 ≤ s' → s' < 2147483648 → (∀ b, b ≠ a → H1 b = H b) →
          tRet (tOp (rI (fun _ j => 0 < j) fun i j => .int (i % j)) (tOp (rI CDiv fun i j => .int (i / j)) (tCB (fun xs H Q => (∃ i, xs = [.int i] ∧ Q (.int i) H) ∨ ∃ k, xs = [.bl k] ∧ Q (.int (if k then 1 else 0)) H) (tCons (tOp (rI (fun _ j => 0 < j) fun i j => .int (i % j)) (tOp (rI CMul fun i j => .int (i * j)) (tOp (rIxL K) (tVar 0) (tC (.int 3))) (tC (.int 69621))) (tC (.int 2147483629))) tNil)) (tC (.int 7))) (tVar 1)) { nx := fun _ H' => Q .non H', rt := Q } σ H1 := by
        intro σ H1 p' s' h0 h1 hH1 hp hs hs2 hb
        refine rd0 3 h0 hH1 rfl ⟨_, _, rfl, rfl, .inr ⟨by decide, by decide⟩, _, _, rfl, rfl, (show (0:Int) < 2147483629 from by decide), .inl ⟨_, rfl, _, _, rfl, rfl, ⟨by decide, by decide⟩, _, h1, _, _, rfl, rfl, k0, ?_⟩⟩
        exact fin (Int.emod_nonneg _ (by omega)) (Int.emod_lt_of_pos _ k0) hp c0 hs hs2 hH1 hb
      refine rd0 1 rfl hH rfl ?_
      refine rd0 0 rfl hH rfl ⟨l, _, rfl, .inl (SqL.of (hF _ _ hl)), _, _, rfl, rfl, _, rfl, ?_⟩
      refine ite2 (fun hp => ?_) (fun hp => ?_)
      · have hp : p < ((ns.map V.int).length : Int) := of_decide_eq_true hp
        rw [List.length_map] at hp
        obtain ⟨j, rfl⟩ : ∃ j : Nat, p = (j : Int) := ⟨p.toNat, by omega⟩
        have hj : j < ns.length := by omega
        refine rd0 0 rfl hH rfl ?_
        refine rd0 1 rfl hH rfl ⟨l, ns.map V.int, _, .int ns[j], rfl, rfl, SqL.of (hF _ _ hl), atI_nat (by rw [List.getElem?_map]; simp [hj]), _, rfl, ?_⟩
        refine rd0 1 rfl hH rfl ⟨_, _, rfl, rfl, ?_⟩
        refine st0 1 rfl hH (by simp) ?_
        refine ⟨_, rfl, _, _, rfl, rfl, ⟨by decide, by decide, by decide⟩, _, _, rfl, rfl, _, rfl, ?_⟩
        have ab : (0 : Int) ≤ (if ns[j] < 0 then -ns[j] else ns[j]) := by split <;> omega
        refine ite2 (fun hg => ?_) (fun hg => ?_)
        · refine ⟨_, rfl, _, rfl, _, _, rfl, rfl, ⟨k0, k1⟩, ?_⟩
          refine st0 2 rfl upd_same (by simp) ?_
          refine ⟨_, rfl, .inl ⟨_, rfl, _, rfl, _, _, rfl, rfl, k0, ?_⟩⟩
          exact fin (Int.emod_nonneg _ (by omega)) (Int.emod_lt_of_pos _ k0) (by omega) (Int.ediv_nonneg ab (by omega)) s0 s1 upd_same fun b hb => by rw [upd_ne hb, upd_ne hb]
        · refine rd0 3 rfl upd_same rfl ⟨_, _, rfl, rfl, .inr ⟨by decide, by decide⟩, _, rfl, _, _, rfl, rfl, _, _, rfl, rfl, .inl ⟨_, rfl, _, _, rfl, rfl, (show (0:Int) < 2147483647 from by decide), ?_⟩⟩
          refine st0 3 rfl upd_same (by simp) ?_
          exact last _ _ _ _ rfl rfl upd_same (by omega) (Int.emod_nonneg _ (by decide)) (by omega) fun b hb => by rw [upd_ne hb, upd_ne hb]
      · refine rd0 3 rfl hH rfl ⟨_, _, rfl, rfl, .inr ⟨by decide, by decide⟩, _, _, rfl, rfl, .inl ⟨_, rfl, _, _, rfl, rfl, (show (0:Int) < 2147483647 from by decide), ?_⟩⟩
        refine st0 3 rfl hH (by simp) ?_
        exact last _ _ _ _ rfl rfl upd_same p0 (Int.emod_nonneg _ (by decide)) (by omega) fun b hb => upd_ne hb

theorem scDr : FnScope ["script"] ["script"] (defScope sDr) := ⟨rfl, rfl, rfl, by decide +kernel, rfl, by decide +kernel, by decide +kernel⟩
theorem ok_draw {f : Addr} {fd : FuncData} (F : Fun K "_law_draw" "_law_draw" sDr f fd) (hm : mg "list" = none) : FnOk P w K mg base CX0 1 f fd ["script"] (spDraw K) := by
  refine F.ok scDr (fun vs H Q E h => ?_) (fun cdv A outer s H vs Q E hr h => ?_)
  · obtain ⟨a, ns, rfl, _⟩ := h
    rfl
  · obtain ⟨a, ns, rfl, hS, hlen, kq⟩ := h
    refine ⟨_, pss_one (ps_ret (pe_lst (pa_cons (pe_callTy call_list_of (by rfl) hm (by decide +kernel) (pa_cons (pv 0) pa_nil)) (pa_cons pe_int (pa_cons pe_int (pa_cons pe_int pa_nil)))))), ?_⟩
    refine ⟨.ref a, rfl, a, _, rfl, .inl hS, fun l hl => ⟨by rw [sizeLine_eq]; show 4 ≤ 16777216; decide, fun q hq => ?_⟩⟩
    have ne : l ≠ q := fun z => by rw [z, upd_same] at hq; cases hq
    rw [upd_ne (Ne.symm ne)] at hq
    exact kq q l _ hq hl ne upd_same (by rw [upd_ne ne, upd_same]) fun b o e => by rw [upd_ne (ne_of_none e hq), upd_ne (ne_of_none e hl)]; exact e
end

section
variable {P : Program} {w : World} {K : PySem.W.Frag} {mg : Str → Option Value} {base : Heap}
/-! by_name -/
abbrev s_by_name : Stmt := top 1
abbrev n_by_name : List Str := ["jobs", "found", "job"]
theorem sc_by_name : FnScope n_by_name ["jobs"] (defScope s_by_name) := ⟨rfl, rfl, rfl, by decide +kernel, rfl, by decide +kernel, by decide +kernel⟩
def l_by_name_1 : SS := (sDput 1 (sOp ixD (sVar 2) (sC (.int 0))) (sVar 2))
def t_by_name_3 : SS := (sFzD 1 (sRet (sVar 1)))
def t_by_name_2 : SS := sSeq (sFor (iVal (sVar 0)) (gN 2) l_by_name_1) t_by_name_3
def b_by_name : SS := sSeq (sDnew 1) t_by_name_2
def m_by_name : Sm := semD 3 b_by_name
theorem w_by_name (T : Bt ⟨K, P, w⟩ mg)  {f : Addr} {fd : FuncData} (F : Fun K "by_name" "by_name" s_by_name f fd) : FnOk P w K mg base CX0 2 f fd ["jobs"] (spOf ⟨K, P, w⟩ m_by_name 1) :=
  def_ok F sc_by_name fun cdv A outer s H E hr => by
    have hu := hu65 hr
    have hr1 := hr.mono (by decide : 1 ≤ 1)
    exact (mss_cons (ms_dnew (i := 1) sc_by_name.nd rfl (by first | exact .inl rfl | exact .inr rfl))
    (mss_cons (ms_for (ts := [2]) PassesOwn.never rfl (mi_val (me_var (pv 0))) (mg_name sc_by_name.nd rfl (by first | exact .inl rfl | exact .inr rfl) (by decide)) (mss_one (ms_dput hu (pv 1) (me_ix (me_var (pv 2)) me_int) (me_var (pv 2)))))
    (mss_one (ms_fzD 1 (ms_ret (me_var (pv 1)))))))
/-! ring -/
abbrev s_ring : Stmt := top 2
abbrev n_ring : List Str := ["jobs", "told", "name", "_", "needs", "rows", "rings", "row", "longer", "other"]
theorem sc_ring : FnScope n_ring ["jobs"] (defScope s_ring) := ⟨rfl, rfl, rfl, by decide +kernel, rfl, by decide +kernel, by decide +kernel⟩
def l_ring_1 : SS := (sDput 1 (sVar 2) (sVar 4))
def l_ring_2 : SS := (sExt 8 (sFr (sLc (iVal (sDix (sBor 1) (sOp ixD (sVar 7) (sUn negD (sC (.int 1)))))) [9] (gN 9) (sAnd (sTB (sOp gtD (sVar 9) (sOp ixD (sVar 7) (sC (.int 0))))) (sTB (sOp ninD (sVar 9) (sVar 7)))) (sOp addD (sVar 7) (sTup (sCons (sVar 9) sNil))))))
def v_ring_1 : SS := (sSeq (sFor (iVal (sVar 5)) (gN 7) l_ring_2)
    (sFz 8 (sAsg 5 (sVar 8))))
def v_ring_2 : SS := (sSeq (sOwn 8 (sItems sNil))
    v_ring_1)
def v_ring_3 : SS := (sSeq (sIfS (sTru (sVar 6)) (sRet (sBest false (sVar 6))) sSkip)
    v_ring_2)
def l_ring_3 : SS := (sSeq (sAsg 6 (sFr (sLc (iVal (sVar 5)) [7] (gN 7) (sTB (sOp inD (sOp ixD (sVar 7) (sC (.int 0))) (sDix (sBor 1) (sOp ixD (sVar 7) (sUn negD (sC (.int 1))))))) (sVar 7))))
    v_ring_3)
def t_ring_5 : SS := (sRet (sC .none))
def t_ring_4 : SS := sSeq (sWhile (sTru (sVar 5)) l_ring_3) t_ring_5
def t_ring_3 : SS := sSeq (sAsg 5 (sFr (sLc (iVal (sFr (sSrtKeysA (sBor 1)))) [2] (gN 2) tYes' (sTup (sCons (sVar 2) sNil))))) t_ring_4
def t_ring_2 : SS := sSeq (sFor (iVal (sVar 0)) (gT 5 (gCo (gN 2) (gCo (gN 3) (gCo (gN 4) (gCo (gN 3) (gCo (gN 3) gNo)))))) l_ring_1) t_ring_3
def b_ring : SS := sSeq (sDnew 1) t_ring_2
def m_ring : Sm := semD 10 b_ring
theorem w_ring (T : Bt ⟨K, P, w⟩ mg)  {f : Addr} {fd : FuncData} (F : Fun K "ring" "ring" s_ring f fd) : FnOk P w K mg base CX0 2 f fd ["jobs"] (spOf ⟨K, P, w⟩ m_ring 1) :=
  def_ok F sc_ring fun cdv A outer s H E hr => by
    have hu := hu65 hr
    have hr1 := hr.mono (by decide : 1 ≤ 1)
    exact (mss_cons (ms_dnew (i := 1) sc_ring.nd rfl (by first | exact .inl rfl | exact .inr rfl))
    (mss_cons (ms_for (ts := [2, 3, 4]) PassesOwn.never rfl (mi_val (me_var (pv 0))) (mg_tup rfl (mgs_cons (mg_name sc_ring.nd rfl (by first | exact .inl rfl | exact .inr rfl) (by decide)) (mgs_cons (mg_name sc_ring.nd rfl (by first | exact .inl rfl | exact .inr rfl) (by decide)) (mgs_cons (mg_name sc_ring.nd rfl (by first | exact .inl rfl | exact .inr rfl) (by decide)) (mgs_cons (mg_name sc_ring.nd rfl (by first | exact .inl rfl | exact .inr rfl) (by decide)) (mgs_cons (mg_name sc_ring.nd rfl (by first | exact .inl rfl | exact .inr rfl) (by decide)) mgs_nil)))))) (mss_one (ms_dput hu (pv 1) (me_var (pv 2)) (me_var (pv 4)))))
    (mss_cons (ms_lcV (i := 5) (own := [("name", 2)]) rfl sc_ring.nd rfl rfl (sw_true rfl rfl rfl (by decide +kernel)) (mi_val (me_f (mf_srtKeysA rfl (by rfl) T.b_sorted (me_bor (pv 1))))) (blkOk_by (own := [("name", 2)]) (N := n_ring) (sc := defScope s_ring) (by decide +kernel)) (fun _ _ _ _ _ => (mg_name sc_ring.nd rfl (by first | exact .inl rfl | exact .inr rfl) (by decide))) (fun _ _ _ _ _ => mts_nil) (fun _ _ _ _ _ => (me_tup (ma_cons (me_var (pv 2)) ma_nil))))
    (mss_cons (ms_while PassesOwn.never (mt_tru (me_var (pv 5))) (mss_cons (ms_lcV (i := 6) (own := [("row", 7)]) rfl sc_ring.nd rfl rfl (sw_true rfl rfl rfl (by decide +kernel)) (mi_val (me_var (pv 5))) (blkOk_by (own := [("row", 7)]) (N := n_ring) (sc := defScope s_ring) (by decide +kernel)) (fun _ _ _ _ _ => (mg_name sc_ring.nd rfl (by first | exact .inl rfl | exact .inr rfl) (by decide))) (fun _ _ _ _ _ => (mts_one (mt_c (b := true) (c_in hu) (me_ix (me_var (pv 7)) me_int) (me_dix hu (me_bor (pv 1)) (me_ix (me_var (pv 7)) (me_neg (b := true) me_int)))))) (fun _ _ _ _ _ => (me_var (pv 7))))
    (mss_cons (ms_if (mt_tru (me_var (pv 6))) (mss_one (ms_ret (me_minB rfl hu (by rfl) T.b_min (me_var (pv 6))))) mss_nil)
    (mss_cons (ms_own sc_ring.nd rfl (by first | exact .inl rfl | exact .inr rfl) (mf_lst ma_nil))
    (mss_cons (ms_for (ts := [7]) PassesOwn.never rfl (mi_val (me_var (pv 5))) (mg_name sc_ring.nd rfl (by first | exact .inl rfl | exact .inr rfl) (by decide)) (mss_one (ms_ext (pv 8) (me_f (mf_lc (own := [("other", 9)]) rfl sc_ring.nd (mi_val (me_dix hu (me_bor (pv 1)) (me_ix (me_var (pv 7)) (me_neg (b := true) me_int)))) (blkOk_by (own := [("other", 9)]) (N := n_ring) (sc := defScope s_ring) (by decide +kernel)) (fun _ _ _ _ _ => (mg_name sc_ring.nd rfl (by first | exact .inl rfl | exact .inr rfl) (by decide))) (fun _ _ _ _ _ => (mts_one (mt_w (mw_and (mt_c (b := true) (c_gt hu) (me_var (pv 9)) (me_ix (me_var (pv 7)) me_int)) (mw_and1 (mt_c (b := true) (c_nin hu) (me_var (pv 9)) (me_var (pv 7)))))))) (fun _ _ _ _ _ => (me_add (b := true) (me_var (pv 7)) (me_tup (ma_cons (me_var (pv 9)) ma_nil)))))))))
    (mss_one (ms_fz 8 (ms_set (i := 5) sc_ring.nd rfl (by first | exact .inl rfl | exact .inr rfl) (me_var (pv 8))))))))))
    (mss_one (ms_ret me_non))))))
/-! order_of -/
abbrev s_order_of : Stmt := top 3
abbrev n_order_of : List Str := ["jobs", "found", "left", "job", "told", "ready", "name", "other"]
theorem sc_order_of : FnScope n_order_of ["jobs"] (defScope s_order_of) := ⟨rfl, rfl, rfl, by decide +kernel, rfl, by decide +kernel, by decide +kernel⟩
def v_order_of_1 : SS := (sSeq (sExt 1 (sVar 5))
    (sAsg 2 (sFr (sLc (iVal (sVar 2)) [6] (gN 6) (sTB (sOp ninD (sVar 6) (sVar 5))) (sVar 6)))))
def l_order_of_1 : SS := (sSeq (sAsg 5 (sFr (sLc (iVal (sVar 2)) [6] (gN 6) (sTru (sUn allD (sFr (sLc (iVal (sOp ixD (sDix (sVar 4) (sVar 6)) (sC (.int 2)))) [7] (gN 7) tYes' (sOp inD (sVar 7) (sBor 1)))))) (sVar 6))))
    v_order_of_1)
def t_order_of_5 : SS := (sFz 1 (sRet (sVar 1)))
def t_order_of_4 : SS := sSeq (sWhile (sTru (sVar 2)) l_order_of_1) t_order_of_5
def t_order_of_3 : SS := sSeq (sAsg 4 (sCall 1 m_by_name (rCons (sVar 0) rNil))) t_order_of_4
def t_order_of_2 : SS := sSeq (sAsg 2 (sFr (sSort (sFr (sLc (iVal (sVar 0)) [3] (gN 3) tYes' (sOp ixD (sVar 3) (sC (.int 0)))))))) t_order_of_3
def b_order_of : SS := sSeq (sOwn 1 (sItems sNil)) t_order_of_2
def m_order_of : Sm := semD 8 b_order_of
theorem w_order_of (T : Bt ⟨K, P, w⟩ mg) (d_by_name : Df P w K mg base "by_name" 2 ["jobs"] (spOf ⟨K, P, w⟩ m_by_name 1)) {f : Addr} {fd : FuncData} (F : Fun K "order_of" "order_of" s_order_of f fd) : FnOk P w K mg base CX0 3 f fd ["jobs"] (spOf ⟨K, P, w⟩ m_order_of 1) :=
  def_ok F sc_order_of fun cdv A outer s H E hr => by
    have hu := hu65 hr
    have hr1 := hr.mono (by decide : 1 ≤ 2)
    exact (mss_cons (ms_own sc_order_of.nd rfl (by first | exact .inl rfl | exact .inr rfl) (mf_lst ma_nil))
    (mss_cons (ms_set (i := 2) sc_order_of.nd rfl (by first | exact .inl rfl | exact .inr rfl) (me_f (mf_sorted hu (by rfl) T.b_sorted (me_f (mf_lc (own := [("job", 3)]) rfl sc_order_of.nd (mi_val (me_var (pv 0))) (blkOk_by (own := [("job", 3)]) (N := n_order_of) (sc := defScope s_order_of) (by decide +kernel)) (fun _ _ _ _ _ => (mg_name sc_order_of.nd rfl (by first | exact .inl rfl | exact .inr rfl) (by decide))) (fun _ _ _ _ _ => mts_nil) (fun _ _ _ _ _ => (me_ix (me_var (pv 3)) me_int)))))))
    (mss_cons (ms_set (i := 4) sc_order_of.nd rfl (by first | exact .inl rfl | exact .inr rfl) (me_callD d_by_name rfl (hr.mono (by decide)) rfl (mr_cons (me_var (pv 0)) mr_nil)))
    (mss_cons (ms_while PassesOwn.never (mt_tru (me_var (pv 2))) (mss_cons (ms_set (i := 5) sc_order_of.nd rfl (by first | exact .inl rfl | exact .inr rfl) (me_f (mf_lc (own := [("name", 6)]) rfl sc_order_of.nd (mi_val (me_var (pv 2))) (blkOk_by (own := [("name", 6)]) (N := n_order_of) (sc := defScope s_order_of) (by decide +kernel)) (fun _ _ _ _ _ => (mg_name sc_order_of.nd rfl (by first | exact .inl rfl | exact .inr rfl) (by decide))) (fun _ _ _ _ _ => (mts_one (mt_tru (me_all rfl (by rfl) T.b_all (me_f (mf_lc (own := [("other", 7)]) rfl sc_order_of.nd (mi_val (me_ix (me_dix hu (me_var (pv 4)) (me_var (pv 6))) me_int)) (blkOk_by (own := [("other", 7)]) (by rfl)) (fun _ _ _ _ _ => (mg_name sc_order_of.nd rfl (by first | exact .inl rfl | exact .inr rfl) (by decide))) (fun _ _ _ _ _ => mts_nil) (fun _ _ _ _ _ => (me_c (b := true) (c_in hu) (me_var (pv 7)) (me_bor (pv 1)))))))))) (fun _ _ _ _ _ => (me_var (pv 6))))))
    (mss_cons (ms_ext (pv 1) (me_var (pv 5)))
    (mss_one (ms_lcV (i := 2) (own := [("name", 6)]) rfl sc_order_of.nd rfl rfl (sw_true rfl rfl rfl (by decide +kernel)) (mi_val (me_var (pv 2))) (blkOk_by (own := [("name", 6)]) (N := n_order_of) (sc := defScope s_order_of) (by decide +kernel)) (fun _ _ _ _ _ => (mg_name sc_order_of.nd rfl (by first | exact .inl rfl | exact .inr rfl) (by decide))) (fun _ _ _ _ _ => (mts_one (mt_c (b := true) (c_nin hu) (me_var (pv 6)) (me_var (pv 5))))) (fun _ _ _ _ _ => (me_var (pv 6))))))))
    (mss_one (ms_fz 1 (ms_ret (me_var (pv 1)))))))))
/-! begins_of -/
abbrev s_begins_of : Stmt := top 4
abbrev n_begins_of : List Str := ["jobs", "told", "found", "name", "_", "needs", "ready", "other"]
theorem sc_begins_of : FnScope n_begins_of ["jobs"] (defScope s_begins_of) := ⟨rfl, rfl, rfl, by decide +kernel, rfl, by decide +kernel, by decide +kernel⟩
def l_begins_of_1 : SS := (sSeq (sAsgG (sDix (sVar 1) (sVar 3)) (gT 5 (gCo (gN 4) (gCo (gN 4) (gCo (gN 5) (gCo (gN 6) (gCo (gN 4) gNo)))))))
    (sDput 2 (sVar 3) (sUn maxD (sOp addD (sFr (sItems (sCons (sVar 6) sNil))) (sFr (sLc (iVal (sVar 5)) [7] (gN 7) tYes' (sOp addD (sDix (sBor 2) (sVar 7)) (sOp ixD (sDix (sVar 1) (sVar 7)) (sC (.int 1))))))))))
def t_begins_of_4 : SS := (sFzD 2 (sRet (sVar 2)))
def t_begins_of_3 : SS := sSeq (sFor (iVal (sCall 1 m_order_of (rCons (sVar 0) rNil))) (gN 3) l_begins_of_1) t_begins_of_4
def t_begins_of_2 : SS := sSeq (sDnew 2) t_begins_of_3
def b_begins_of : SS := sSeq (sAsg 1 (sCall 1 m_by_name (rCons (sVar 0) rNil))) t_begins_of_2
def m_begins_of : Sm := semD 8 b_begins_of
theorem w_begins_of (T : Bt ⟨K, P, w⟩ mg) (d_by_name : Df P w K mg base "by_name" 2 ["jobs"] (spOf ⟨K, P, w⟩ m_by_name 1)) (d_order_of : Df P w K mg base "order_of" 3 ["jobs"] (spOf ⟨K, P, w⟩ m_order_of 1)) {f : Addr} {fd : FuncData} (F : Fun K "begins_of" "begins_of" s_begins_of f fd) : FnOk P w K mg base CX0 4 f fd ["jobs"] (spOf ⟨K, P, w⟩ m_begins_of 1) :=
  def_ok F sc_begins_of fun cdv A outer s H E hr => by
    have hu := hu65 hr
    have hr1 := hr.mono (by decide : 1 ≤ 3)
    exact (mss_cons (ms_set (i := 1) sc_begins_of.nd rfl (by first | exact .inl rfl | exact .inr rfl) (me_callD d_by_name rfl (hr.mono (by decide)) rfl (mr_cons (me_var (pv 0)) mr_nil)))
    (mss_cons (ms_dnew (i := 2) sc_begins_of.nd rfl (by first | exact .inl rfl | exact .inr rfl))
    (mss_cons (ms_for (ts := [3]) PassesOwn.never rfl (mi_val (me_callD d_order_of rfl (hr.mono (by decide)) rfl (mr_cons (me_var (pv 0)) mr_nil))) (mg_name sc_begins_of.nd rfl (by first | exact .inl rfl | exact .inr rfl) (by decide)) (mss_cons (ms_asg (ts := [4, 5, 6]) (me_dix hu (me_var (pv 1)) (me_var (pv 3))) (mg_tup rfl (mgs_cons (mg_name sc_begins_of.nd rfl (by first | exact .inl rfl | exact .inr rfl) (by decide)) (mgs_cons (mg_name sc_begins_of.nd rfl (by first | exact .inl rfl | exact .inr rfl) (by decide)) (mgs_cons (mg_name sc_begins_of.nd rfl (by first | exact .inl rfl | exact .inr rfl) (by decide)) (mgs_cons (mg_name sc_begins_of.nd rfl (by first | exact .inl rfl | exact .inr rfl) (by decide)) (mgs_cons (mg_name sc_begins_of.nd rfl (by first | exact .inl rfl | exact .inr rfl) (by decide)) mgs_nil)))))))
    (mss_one (ms_dput hu (pv 2) (me_var (pv 3)) (me_max rfl (by rfl) T.b_max (me_add (b := true) (me_f (mf_lst (ma_cons (me_var (pv 6)) ma_nil))) (me_f (mf_lc (own := [("other", 7)]) rfl sc_begins_of.nd (mi_val (me_var (pv 5))) (blkOk_by (own := [("other", 7)]) (N := n_begins_of) (sc := defScope s_begins_of) (by decide +kernel)) (fun _ _ _ _ _ => (mg_name sc_begins_of.nd rfl (by first | exact .inl rfl | exact .inr rfl) (by decide))) (fun _ _ _ _ _ => mts_nil) (fun _ _ _ _ _ => (me_add (b := true) (me_dix hu (me_bor (pv 2)) (me_var (pv 7))) (me_ix (me_dix hu (me_var (pv 1)) (me_var (pv 7))) me_int)))))))))))
    (mss_one (ms_fzD 2 (ms_ret (me_var (pv 2))))))))
/-! earliest -/
abbrev s_earliest : Stmt := top 5
abbrev n_earliest : List Str := ["jobs"]
theorem sc_earliest : FnScope n_earliest ["jobs"] (defScope s_earliest) := ⟨rfl, rfl, rfl, by decide +kernel, rfl, by decide +kernel, by decide +kernel⟩
def b_earliest : SS := (sRet (sUn tupD (sFr (sSortItems (sCall 1 m_begins_of (rCons (sVar 0) rNil))))))
def m_earliest : Sm := semD 1 b_earliest
theorem w_earliest (T : Bt ⟨K, P, w⟩ mg) (d_begins_of : Df P w K mg base "begins_of" 4 ["jobs"] (spOf ⟨K, P, w⟩ m_begins_of 1)) {f : Addr} {fd : FuncData} (F : Fun K "earliest" "earliest" s_earliest f fd) : FnOk P w K mg base CX0 5 f fd ["jobs"] (spOf ⟨K, P, w⟩ m_earliest 1) :=
  def_ok F sc_earliest fun cdv A outer s H E hr => by
    have hu := hu65 hr
    have hr1 := hr.mono (by decide : 1 ≤ 4)
    exact (mss_one (ms_ret (me_tuple (by rfl) T.b_tuple (me_f (mf_sortItems hu rfl (by rfl) T.b_sorted (me_callD d_begins_of rfl (hr.mono (by decide)) rfl (mr_cons (me_var (pv 0)) mr_nil)))))))
/-! late -/
abbrev s_late : Stmt := top 6
abbrev n_late : List Str := ["jobs", "begins", "name", "long", "_", "due"]
theorem sc_late : FnScope n_late ["jobs"] (defScope s_late) := ⟨rfl, rfl, rfl, by decide +kernel, rfl, by decide +kernel, by decide +kernel⟩
def t_late_2 : SS := (sRet (sUn tupD (sFr (sLc (iVal (sVar 0)) [2, 3, 4, 5] (gT 5 (gCo (gN 2) (gCo (gN 3) (gCo (gN 4) (gCo (gN 4) (gCo (gN 5) gNo)))))) (sAnd (sTB (sOp isnD (sVar 5) (sC .none))) (sTB (sOp gtD (sOp addD (sDix (sVar 1) (sVar 2)) (sVar 3)) (sVar 5)))) (sVar 2)))))
def b_late : SS := sSeq (sAsg 1 (sCall 1 m_begins_of (rCons (sVar 0) rNil))) t_late_2
def m_late : Sm := semD 6 b_late
theorem w_late (T : Bt ⟨K, P, w⟩ mg) (d_begins_of : Df P w K mg base "begins_of" 4 ["jobs"] (spOf ⟨K, P, w⟩ m_begins_of 1)) {f : Addr} {fd : FuncData} (F : Fun K "late" "late" s_late f fd) : FnOk P w K mg base CX0 5 f fd ["jobs"] (spOf ⟨K, P, w⟩ m_late 1) :=
  def_ok F sc_late fun cdv A outer s H E hr => by
    have hu := hu65 hr
    have hr1 := hr.mono (by decide : 1 ≤ 4)
    exact (mss_cons (ms_set (i := 1) sc_late.nd rfl (by first | exact .inl rfl | exact .inr rfl) (me_callD d_begins_of rfl (hr.mono (by decide)) rfl (mr_cons (me_var (pv 0)) mr_nil)))
    (mss_one (ms_ret (me_tuple (by rfl) T.b_tuple (me_f (mf_lc (own := [("name", 2), ("long", 3), ("_", 4), ("due", 5)]) rfl sc_late.nd (mi_val (me_var (pv 0))) (blkOk_by (own := [("name", 2), ("long", 3), ("_", 4), ("due", 5)]) (N := n_late) (sc := defScope s_late) (by decide +kernel)) (fun _ _ _ _ _ => (mg_tup rfl (mgs_cons (mg_name sc_late.nd rfl (by first | exact .inl rfl | exact .inr rfl) (by decide)) (mgs_cons (mg_name sc_late.nd rfl (by first | exact .inl rfl | exact .inr rfl) (by decide)) (mgs_cons (mg_name sc_late.nd rfl (by first | exact .inl rfl | exact .inr rfl) (by decide)) (mgs_cons (mg_name sc_late.nd rfl (by first | exact .inl rfl | exact .inr rfl) (by decide)) (mgs_cons (mg_name sc_late.nd rfl (by first | exact .inl rfl | exact .inr rfl) (by decide)) mgs_nil))))))) (fun _ _ _ _ _ => (mts_one (mt_w (mw_and (mt_c (b := true) c_isn (me_var (pv 5)) me_non) (mw_and1 (mt_c (b := true) (c_gt hu) (me_add (b := true) (me_dix hu (me_var (pv 1)) (me_var (pv 2))) (me_var (pv 3))) (me_var (pv 5)))))))) (fun _ _ _ _ _ => (me_var (pv 2)))))))))
/-! latest -/
abbrev s_latest : Stmt := top 7
abbrev n_latest : List Str := ["jobs", "told", "ends", "name", "begin", "other"]
theorem sc_latest : FnScope n_latest ["jobs"] (defScope s_latest) := ⟨rfl, rfl, rfl, by decide +kernel, rfl, by decide +kernel, by decide +kernel⟩
def l_latest_1 : SS := (sDput 2 (sVar 3) (sOp ixD (sDix (sVar 1) (sVar 3)) (sC (.int 4))))
def l_latest_2 : SS := (sDput 2 (sVar 5) (sIf (sTB (sOp isD (sDix (sBor 2) (sVar 5)) (sC .none))) (sVar 4) (sOp min2D (sDix (sBor 2) (sVar 5)) (sVar 4))))
def l_latest_3 : SS := (sIfS (sTB (sOp isnD (sDix (sBor 2) (sVar 3)) (sC .none))) (sSeq (sAsg 4 (sOp subD (sDix (sBor 2) (sVar 3)) (sOp ixD (sDix (sVar 1) (sVar 3)) (sC (.int 1)))))
    (sFor (iVal (sOp ixD (sDix (sVar 1) (sVar 3)) (sC (.int 2)))) (gN 5) l_latest_2)) sSkip)
def t_latest_5 : SS := (sRet (sUn tupD (sFr (sLc (iVal (sFr (sSrtKeysA (sVar 1)))) [3] (gN 3) tYes' (sTup (sCons (sVar 3) (sCons (sIf (sTB (sOp isD (sDix (sBor 2) (sVar 3)) (sC .none))) (sC .none) (sOp subD (sDix (sBor 2) (sVar 3)) (sOp ixD (sDix (sVar 1) (sVar 3)) (sC (.int 1))))) sNil)))))))
def t_latest_4 : SS := sSeq (sFor (iVal (sStep (sCall 1 m_order_of (rCons (sVar 0) rNil)) (sUn negD (sC (.int 1))))) (gN 3) l_latest_3) t_latest_5
def t_latest_3 : SS := sSeq (sFor (iKeysG (sVar 1)) (gN 3) l_latest_1) t_latest_4
def t_latest_2 : SS := sSeq (sDnew 2) t_latest_3
def b_latest : SS := sSeq (sAsg 1 (sCall 1 m_by_name (rCons (sVar 0) rNil))) t_latest_2
def m_latest : Sm := semD 6 b_latest
theorem w_latest (T : Bt ⟨K, P, w⟩ mg) (d_by_name : Df P w K mg base "by_name" 2 ["jobs"] (spOf ⟨K, P, w⟩ m_by_name 1)) (d_order_of : Df P w K mg base "order_of" 3 ["jobs"] (spOf ⟨K, P, w⟩ m_order_of 1)) {f : Addr} {fd : FuncData} (F : Fun K "latest" "latest" s_latest f fd) : FnOk P w K mg base CX0 4 f fd ["jobs"] (spOf ⟨K, P, w⟩ m_latest 1) :=
  def_ok F sc_latest fun cdv A outer s H E hr => by
    have hu := hu65 hr
    have hr1 := hr.mono (by decide : 1 ≤ 3)
    exact (mss_cons (ms_set (i := 1) sc_latest.nd rfl (by first | exact .inl rfl | exact .inr rfl) (me_callD d_by_name rfl (hr.mono (by decide)) rfl (mr_cons (me_var (pv 0)) mr_nil)))
    (mss_cons (ms_dnew (i := 2) sc_latest.nd rfl (by first | exact .inl rfl | exact .inr rfl))
    (mss_cons (ms_for (ts := [3]) PassesOwn.never rfl (mi_keysG (me_var (pv 1))) (mg_name sc_latest.nd rfl (by first | exact .inl rfl | exact .inr rfl) (by decide)) (mss_one (ms_dput hu (pv 2) (me_var (pv 3)) (me_ix (me_dix hu (me_var (pv 1)) (me_var (pv 3))) me_int))))
    (mss_cons (ms_for (ts := [3]) PassesOwn.never rfl (mi_val (me_step (me_callD d_order_of rfl (hr.mono (by decide)) rfl (mr_cons (me_var (pv 0)) mr_nil)) (me_neg (b := true) me_int))) (mg_name sc_latest.nd rfl (by first | exact .inl rfl | exact .inr rfl) (by decide)) (mss_one (ms_if (mt_c (b := true) c_isn (me_dix hu (me_bor (pv 2)) (me_var (pv 3))) me_non) (mss_cons (ms_set (i := 4) sc_latest.nd rfl (by first | exact .inl rfl | exact .inr rfl) (me_sub (b := true) (me_dix hu (me_bor (pv 2)) (me_var (pv 3))) (me_ix (me_dix hu (me_var (pv 1)) (me_var (pv 3))) me_int)))
    (mss_one (ms_for (ts := [5]) PassesOwn.never rfl (mi_val (me_ix (me_dix hu (me_var (pv 1)) (me_var (pv 3))) me_int)) (mg_name sc_latest.nd rfl (by first | exact .inl rfl | exact .inr rfl) (by decide)) (mss_one (ms_dput hu (pv 2) (me_var (pv 5)) (me_if (mt_c (b := true) c_is (me_dix hu (me_bor (pv 2)) (me_var (pv 5))) me_non) (me_var (pv 4)) (me_min2 rfl (by rfl) T.b_min (me_dix hu (me_bor (pv 2)) (me_var (pv 5))) (me_var (pv 4))))))))) mss_nil)))
    (mss_one (ms_ret (me_tuple (by rfl) T.b_tuple (me_f (mf_lc (own := [("name", 3)]) rfl sc_latest.nd (mi_val (me_f (mf_srtKeysA rfl (by rfl) T.b_sorted (me_var (pv 1))))) (blkOk_by (own := [("name", 3)]) (N := n_latest) (sc := defScope s_latest) (by decide +kernel)) (fun _ _ _ _ _ => (mg_name sc_latest.nd rfl (by first | exact .inl rfl | exact .inr rfl) (by decide))) (fun _ _ _ _ _ => mts_nil) (fun _ _ _ _ _ => (me_tup (ma_cons (me_var (pv 3)) (ma_cons (me_if (mt_c (b := true) c_is (me_dix hu (me_bor (pv 2)) (me_var (pv 3))) me_non) me_non (me_sub (b := true) (me_dix hu (me_bor (pv 2)) (me_var (pv 3))) (me_ix (me_dix hu (me_var (pv 1)) (me_var (pv 3))) me_int))) ma_nil)))))))))))))
/-! holding_chain -/
abbrev s_holding_chain : Stmt := top 8
abbrev n_holding_chain : List Str := ["jobs", "name", "told", "begins", "found", "here", "holders", "other"]
theorem sc_holding_chain : FnScope n_holding_chain ["jobs", "name"] (defScope s_holding_chain) := ⟨rfl, rfl, rfl, by decide +kernel, rfl, by decide +kernel, by decide +kernel⟩
def v_holding_chain_1 : SS := (sSeq (sIfS (sNot (sTru (sVar 6))) (sRet (sVar 4)) sSkip)
    (sAsg 4 (sOp addD (sTup (sCons (sBest false (sVar 6)) sNil)) (sVar 4))))
def v_holding_chain_2 : SS := (sSeq (sAsg 6 (sFr (sLc (iVal (sOp ixD (sDix (sVar 2) (sVar 5)) (sC (.int 2)))) [7] (gN 7) (sTB (sOp eqD (sOp addD (sDix (sVar 3) (sVar 7)) (sOp ixD (sDix (sVar 2) (sVar 7)) (sC (.int 1)))) (sDix (sVar 3) (sVar 5)))) (sVar 7))))
    v_holding_chain_1)
def l_holding_chain_1 : SS := (sSeq (sAsg 5 (sOp ixD (sVar 4) (sC (.int 0))))
    v_holding_chain_2)
def t_holding_chain_4 : SS := (sWhile (sTru (sC (.bool true))) l_holding_chain_1)
def t_holding_chain_3 : SS := sSeq (sAsg 4 (sTup (sCons (sVar 1) sNil))) t_holding_chain_4
def t_holding_chain_2 : SS := sSeq (sAsg 3 (sCall 1 m_begins_of (rCons (sVar 0) rNil))) t_holding_chain_3
def b_holding_chain : SS := sSeq (sAsg 2 (sCall 1 m_by_name (rCons (sVar 0) rNil))) t_holding_chain_2
def m_holding_chain : Sm := semD 8 b_holding_chain
theorem w_holding_chain (T : Bt ⟨K, P, w⟩ mg) (d_by_name : Df P w K mg base "by_name" 2 ["jobs"] (spOf ⟨K, P, w⟩ m_by_name 1)) (d_begins_of : Df P w K mg base "begins_of" 4 ["jobs"] (spOf ⟨K, P, w⟩ m_begins_of 1)) {f : Addr} {fd : FuncData} (F : Fun K "holding_chain" "holding_chain" s_holding_chain f fd) : FnOk P w K mg base CX0 5 f fd ["jobs", "name"] (spOf ⟨K, P, w⟩ m_holding_chain 2) :=
  def_ok F sc_holding_chain fun cdv A outer s H E hr => by
    have hu := hu65 hr
    have hr1 := hr.mono (by decide : 1 ≤ 4)
    exact (mss_cons (ms_set (i := 2) sc_holding_chain.nd rfl (by first | exact .inl rfl | exact .inr rfl) (me_callD d_by_name rfl (hr.mono (by decide)) rfl (mr_cons (me_var (pv 0)) mr_nil)))
    (mss_cons (ms_set (i := 3) sc_holding_chain.nd rfl (by first | exact .inl rfl | exact .inr rfl) (me_callD d_begins_of rfl (hr.mono (by decide)) rfl (mr_cons (me_var (pv 0)) mr_nil)))
    (mss_cons (ms_set (i := 4) sc_holding_chain.nd rfl (by first | exact .inl rfl | exact .inr rfl) (me_tup (ma_cons (me_var (pv 1)) ma_nil)))
    (mss_one (ms_while PassesOwn.never (mt_tru me_bl) (mss_cons (ms_set (i := 5) sc_holding_chain.nd rfl (by first | exact .inl rfl | exact .inr rfl) (me_ix (me_var (pv 4)) me_int))
    (mss_cons (ms_lcV (i := 6) (own := [("other", 7)]) rfl sc_holding_chain.nd rfl rfl (sw_true rfl rfl rfl (by decide +kernel)) (mi_val (me_ix (me_dix hu (me_var (pv 2)) (me_var (pv 5))) me_int)) (blkOk_by (own := [("other", 7)]) (N := n_holding_chain) (sc := defScope s_holding_chain) (by decide +kernel)) (fun _ _ _ _ _ => (mg_name sc_holding_chain.nd rfl (by first | exact .inl rfl | exact .inr rfl) (by decide))) (fun _ _ _ _ _ => (mts_one (mt_c (b := true) (c_eq hu) (me_add (b := true) (me_dix hu (me_var (pv 3)) (me_var (pv 7))) (me_ix (me_dix hu (me_var (pv 2)) (me_var (pv 7))) me_int)) (me_dix hu (me_var (pv 3)) (me_var (pv 5)))))) (fun _ _ _ _ _ => (me_var (pv 7))))
    (mss_cons (ms_if (mt_not (mt_tru (me_var (pv 6)))) (mss_one (ms_ret (me_var (pv 4)))) mss_nil)
    (mss_one (ms_set (i := 4) sc_holding_chain.nd rfl (by first | exact .inl rfl | exact .inr rfl) (me_add (b := true) (me_tup (ma_cons (me_minB rfl hu (by rfl) T.b_min (me_var (pv 6))) ma_nil)) (me_var (pv 4)))))))))))))
/-! end_of -/
abbrev s_end_of : Stmt := top 9
abbrev n_end_of : List Str := ["jobs", "name"]
theorem sc_end_of : FnScope n_end_of ["jobs", "name"] (defScope s_end_of) := ⟨rfl, rfl, rfl, by decide +kernel, rfl, by decide +kernel, by decide +kernel⟩
def b_end_of : SS := (sRet (sOp addD (sDix (sCall 1 m_begins_of (rCons (sVar 0) rNil)) (sVar 1)) (sOp ixD (sDix (sCall 1 m_by_name (rCons (sVar 0) rNil)) (sVar 1)) (sC (.int 1)))))
def m_end_of : Sm := semD 2 b_end_of
theorem w_end_of (T : Bt ⟨K, P, w⟩ mg) (d_begins_of : Df P w K mg base "begins_of" 4 ["jobs"] (spOf ⟨K, P, w⟩ m_begins_of 1)) (d_by_name : Df P w K mg base "by_name" 2 ["jobs"] (spOf ⟨K, P, w⟩ m_by_name 1)) {f : Addr} {fd : FuncData} (F : Fun K "end_of" "end_of" s_end_of f fd) : FnOk P w K mg base CX0 5 f fd ["jobs", "name"] (spOf ⟨K, P, w⟩ m_end_of 2) :=
  def_ok F sc_end_of fun cdv A outer s H E hr => by
    have hu := hu65 hr
    have hr1 := hr.mono (by decide : 1 ≤ 4)
    exact (mss_one (ms_ret (me_add (b := true) (me_dix hu (me_callD d_begins_of rfl (hr.mono (by decide)) rfl (mr_cons (me_var (pv 0)) mr_nil)) (me_var (pv 1))) (me_ix (me_dix hu (me_callD d_by_name rfl (hr.mono (by decide)) rfl (mr_cons (me_var (pv 0)) mr_nil)) (me_var (pv 1))) me_int))))
/-! gain -/
abbrev s_gain : Stmt := top 10
abbrev n_gain : List Str := ["jobs", "name", "other", "quick", "job"]
theorem sc_gain : FnScope n_gain ["jobs", "name", "other"] (defScope s_gain) := ⟨rfl, rfl, rfl, by decide +kernel, rfl, by decide +kernel, by decide +kernel⟩
def t_gain_2 : SS := (sRet (sOp subD (sCall 2 m_end_of (rCons (sVar 0) (rCons (sVar 2) rNil))) (sCall 2 m_end_of (rCons (sVar 3) (rCons (sVar 2) rNil)))))
def b_gain : SS := sSeq (sAsg 3 (sUn tupD (sFr (sLc (iVal (sVar 0)) [4] (gN 4) tYes' (sOp addD (sTup (sCons (sOp ixD (sVar 4) (sC (.int 0))) (sCons (sIf (sTB (sOp eqD (sOp ixD (sVar 4) (sC (.int 0))) (sVar 1))) (sC (.int 0)) (sOp ixD (sVar 4) (sC (.int 1)))) sNil))) (sSl (sVar 4) (sPart (sC (.int 2))) sNo)))))) t_gain_2
def m_gain : Sm := semD 5 b_gain
theorem w_gain (T : Bt ⟨K, P, w⟩ mg) (d_end_of : Df P w K mg base "end_of" 5 ["jobs", "name"] (spOf ⟨K, P, w⟩ m_end_of 2)) {f : Addr} {fd : FuncData} (F : Fun K "gain" "gain" s_gain f fd) : FnOk P w K mg base CX0 6 f fd ["jobs", "name", "other"] (spOf ⟨K, P, w⟩ m_gain 3) :=
  def_ok F sc_gain fun cdv A outer s H E hr => by
    have hu := hu65 hr
    have hr1 := hr.mono (by decide : 1 ≤ 5)
    exact (mss_cons (ms_set (i := 3) sc_gain.nd rfl (by first | exact .inl rfl | exact .inr rfl) (me_tuple (by rfl) T.b_tuple (me_f (mf_lc (own := [("job", 4)]) rfl sc_gain.nd (mi_val (me_var (pv 0))) (blkOk_by (own := [("job", 4)]) (N := n_gain) (sc := defScope s_gain) (by decide +kernel)) (fun _ _ _ _ _ => (mg_name sc_gain.nd rfl (by first | exact .inl rfl | exact .inr rfl) (by decide))) (fun _ _ _ _ _ => mts_nil) (fun _ _ _ _ _ => (me_add (b := true) (me_tup (ma_cons (me_ix (me_var (pv 4)) me_int) (ma_cons (me_if (mt_c (b := true) (c_eq hu) (me_ix (me_var (pv 4)) me_int) (me_var (pv 1))) me_int (me_ix (me_var (pv 4)) me_int)) ma_nil))) (me_sl (me_var (pv 4)) (mo_some me_int) mo_none)))))))
    (mss_one (ms_ret (me_sub (b := true) (me_callD d_end_of rfl (hr.mono (by decide)) rfl (mr_cons (me_var (pv 0)) (mr_cons (me_var (pv 2)) mr_nil))) (me_callD d_end_of rfl (hr.mono (by decide)) rfl (mr_cons (me_var (pv 3)) (mr_cons (me_var (pv 2)) mr_nil)))))))
/-! law -/
abbrev s_law : Stmt := top 15
abbrev n_law : List Str := [("script" : Str), ("draw" : Str), ("names" : Str), ("jobs" : Str), ("k" : Str), ("needs" : Str), ("j" : Str), ("begins" : Str), ("longs" : Str), ("job" : Str), ("name" : Str), ("long" : Str), ("ready" : Str), ("due" : Str), ("other" : Str), ("times" : Str), ("great" : Str), ("last" : Str), ("told" : Str), ("one" : Str), ("two" : Str), ("less" : Str), ("more" : Str), ("after" : Str), ("rung" : Str)]
theorem sc_law : FnScope n_law ["script"] (defScope s_law) := ⟨rfl, rfl, rfl, by decide +kernel, rfl, by decide +kernel, by decide +kernel⟩
def l_law_1 : SS := (sSeq (sAsg 5 (sUn tupD (sFr (sLc (iR1 (sVar 4)) [6] (gN 6) (sTB (sOp eqD (sNext 1 (sC (.int 3))) (sC (.int 0)))) (sOp ixD (sVar 2) (sVar 6))))))
    (sApp 3 (sTup (sCons (sOp ixD (sVar 2) (sVar 4)) (sCons (sOp addD (sC (.int 1)) (sNext 1 (sC (.int 6)))) (sCons (sVar 5) (sCons (sNext 1 (sC (.int 9))) (sCons (sIf (sTB (sOp eqD (sNext 1 (sC (.int 3))) (sC (.int 0)))) (sC .none) (sOp addD (sC (.int 3)) (sNext 1 (sC (.int 20))))) sNil))))))))
def l_law_2 : SS := (sSeq (sIfS (sOr (sTB (sOp ltD (sDix (sVar 7) (sVar 10)) (sVar 12))) (sTru (sUn anyD (sFr (sLc (iVal (sVar 5)) [14] (gN 14) tYes' (sOp gtD (sOp addD (sDix (sVar 7) (sVar 14)) (sDix (sVar 8) (sVar 14))) (sDix (sVar 7) (sVar 10)))))))) (sRet (sC (.bool false))) sSkip)
    (sIfS (sTB (sOp neD (sDix (sVar 7) (sVar 10)) (sUn maxD (sOp addD (sFr (sItems (sCons (sVar 12) sNil))) (sFr (sLc (iVal (sVar 5)) [14] (gN 14) tYes' (sOp addD (sDix (sVar 7) (sVar 14)) (sDix (sVar 8) (sVar 14))))))))) (sRet (sC (.bool false))) sSkip))
def v_law_1 : SS := (sSeq (sFz 3 (sIfS (sAnd (sTB (sOp isnD (sDix (sVar 17) (sVar 10)) (sC .none))) (sAnd (sTB (sOp gtD (sDix (sVar 7) (sVar 10)) (sDix (sVar 17) (sVar 10)))) (sTB (sOp eqD (sCall 1 m_late (rCons (sVar 3) rNil)) (sTup sNil))))) (sRet (sC (.bool false))) sSkip))
    (sFz 3 (sIfS (sAnd (sTB (sOp isnD (sVar 13) (sC .none))) (sAnd (sTB (sOp gtD (sOp addD (sDix (sVar 7) (sVar 10)) (sVar 11)) (sVar 13))) (sOr (sTB (sOp ninD (sVar 10) (sCall 1 m_late (rCons (sVar 3) rNil)))) (sTB (sOp leD (sDix (sVar 7) (sVar 10)) (sDix (sVar 17) (sVar 10))))))) (sRet (sC (.bool false))) sSkip)))
def v_law_2 : SS := (sSeq (sIfS (sAnd (sTB (sOp isnD (sDix (sVar 17) (sVar 10)) (sC .none))) (sOr (sAnd (sTB (sOp isnD (sVar 13) (sC .none))) (sTB (sOp gtD (sOp addD (sDix (sVar 17) (sVar 10)) (sVar 11)) (sVar 13)))) (sTru (sUn anyD (sFr (sLc (iVal (sBor 3)) [9] (gN 9) tYes' (sAndV (sOp inD (sVar 10) (sOp ixD (sVar 9) (sC (.int 2)))) (sAndV (sOp isnD (sDix (sVar 17) (sOp ixD (sVar 9) (sC (.int 0)))) (sC .none)) (sOp gtD (sOp addD (sDix (sVar 17) (sVar 10)) (sVar 11)) (sDix (sVar 17) (sOp ixD (sVar 9) (sC (.int 0))))))))))))) (sRet (sC (.bool false))) sSkip)
    v_law_1)
def l_law_3 : SS := (sSeq (sIfS (sAnd (sAnd (sTB (sOp isD (sVar 13) (sC .none))) (sTB (sOp isD (sDix (sVar 17) (sVar 10)) (sC .none)))) (sTru (sUn anyD (sFr (sLc (iVal (sBor 3)) [9] (gN 9) tYes' (sAndV (sOp inD (sVar 10) (sOp ixD (sVar 9) (sC (.int 2)))) (sOp isnD (sDix (sVar 17) (sOp ixD (sVar 9) (sC (.int 0)))) (sC .none)))))))) (sRet (sC (.bool false))) sSkip)
    v_law_2)
def v_law_3 : SS := (sSeq (sAsg 23 (sFk (sPairs2 (sCall 1 m_earliest (rCons (sVar 22) rNil)))))
    (sFz 3 (sIfS (sOr (sTru (sUn anyD (sFr (sLc (iVal (sVar 2)) [19] (gN 19) tYes' (sOp ltD (sDix (sVar 23) (sVar 19)) (sDix (sVar 7) (sVar 19))))))) (sTru (sUn anyD (sFr (sLc (iVal (sCall 1 m_late (rCons (sVar 3) rNil))) [19] (gN 19) tYes' (sOp ninD (sVar 19) (sCall 1 m_late (rCons (sVar 22) rNil)))))))) (sRet (sC (.bool false))) sSkip)))
def t_law_22 : SS := (sRet (sOp eqD (sCall 1 m_ring (rCons (sVar 24) rNil)) (sTup (sCons (sOp ixD (sOp ixD (sBor 3) (sC (.int 0))) (sC (.int 0))) (sCons (sOp addD (sOp ixD (sOp ixD (sBor 3) (sC (.int 0))) (sC (.int 0))) (sC (.str "z"))) sNil)))))
def t_law_21 : SS := sSeq (sAsg 24 (sOp addD (sTup (sCons (sTup (sCons (sOp ixD (sOp ixD (sBor 3) (sC (.int 0))) (sC (.int 0))) (sCons (sOp ixD (sOp ixD (sBor 3) (sC (.int 0))) (sC (.int 1))) (sCons (sTup (sCons (sOp addD (sOp ixD (sOp ixD (sBor 3) (sC (.int 0))) (sC (.int 0))) (sC (.str "z"))) sNil)) (sCons (sOp ixD (sOp ixD (sBor 3) (sC (.int 0))) (sC (.int 3))) (sCons (sOp ixD (sOp ixD (sBor 3) (sC (.int 0))) (sC (.int 4))) sNil)))))) sNil)) (sSl (sVar 24) (sPart (sC (.int 1))) sNo))) t_law_22
def t_law_20 : SS := sSeq (sAsg 24 (sOp addD (sOp addD (sSl (sBor 3) sNo (sPart (sC (.int 1)))) (sTup (sCons (sTup (sCons (sOp addD (sOp ixD (sOp ixD (sBor 3) (sC (.int 0))) (sC (.int 0))) (sC (.str "z"))) (sCons (sC (.int 1)) (sCons (sTup (sCons (sOp ixD (sOp ixD (sBor 3) (sC (.int 0))) (sC (.int 0))) sNil)) (sCons (sC (.int 0)) (sCons (sC .none) sNil)))))) sNil))) (sSl (sBor 3) (sPart (sC (.int 1))) sNo))) t_law_21
def t_law_19 : SS := sSeq (sIfS (sTB (sOp gtD (sVar 4) (sC (.int 0)))) (sSeq (sAsg 22 (sOp addD (sOp addD (sSl (sBor 3) sNo (sPart (sVar 4))) (sTup (sCons (sTup (sCons (sOp ixD (sVar 2) (sVar 4)) (sCons (sOp ixD (sOp ixD (sBor 3) (sVar 4)) (sC (.int 1))) (sCons (sUn tupD (sFr (sSrtSetU (sOp addD (sOp ixD (sOp ixD (sBor 3) (sVar 4)) (sC (.int 2))) (sTup (sCons (sOp ixD (sVar 2) (sNext 1 (sVar 4))) sNil)))))) (sCons (sOp ixD (sOp ixD (sBor 3) (sVar 4)) (sC (.int 3))) (sCons (sOp ixD (sOp ixD (sBor 3) (sVar 4)) (sC (.int 4))) sNil)))))) sNil))) (sSl (sBor 3) (sPart (sOp addD (sVar 4) (sC (.int 1)))) sNo)))
    v_law_3) sSkip) t_law_20
def t_law_18 : SS := sSeq (sAsg 4 (sNext 1 (sUn lenD (sVar 2)))) t_law_19
def t_law_17 : SS := sSeq (sIfS (sOr (sNot (sTB (sChain leD leD (sC (.int 0)) (sVar 21) (sDix (sVar 8) (sVar 14))))) (sOr (sAnd (sTB (sOp ninD (sVar 14) (sVar 18))) (sTB (sOp neD (sVar 21) (sC (.int 0))))) (sAnd (sTB (sOp eqD (sVar 10) (sVar 14))) (sTB (sOp neD (sVar 21) (sDix (sVar 8) (sVar 10))))))) (sRet (sC (.bool false))) sSkip) t_law_18
def t_law_16 : SS := sSeq (sFz 3 (sAsg 21 (sCall 3 m_gain (rCons (sVar 3) (rCons (sVar 14) (rCons (sVar 10) rNil)))))) t_law_17
def t_law_15 : SS := sSeq (sIfS (sOr (sTB (sOp neD (sOp ixD (sVar 18) (sUn negD (sC (.int 1)))) (sVar 10))) (sOr (sTru (sUn anyD (sFr (sLc (iZp (sVar 18) (sSl (sVar 18) (sPart (sC (.int 1))) sNo)) [19, 20] (gT 2 (gCo (gN 19) (gCo (gN 20) gNo))) tYes' (sOp neD (sOp addD (sDix (sVar 7) (sVar 19)) (sDix (sVar 8) (sVar 19))) (sDix (sVar 7) (sVar 20))))))) (sTB (sOp neD (sDix (sVar 7) (sOp ixD (sVar 18) (sC (.int 0)))) (sOp ixD (sFr (sLc (iVal (sBor 3)) [9] (gN 9) (sTB (sOp eqD (sOp ixD (sVar 9) (sC (.int 0))) (sOp ixD (sVar 18) (sC (.int 0))))) (sOp ixD (sVar 9) (sC (.int 3))))) (sC (.int 0))))))) (sRet (sC (.bool false))) sSkip) t_law_16
def t_law_14 : SS := sSeq (sFz 3 (sAsg 18 (sCall 2 m_holding_chain (rCons (sVar 3) (rCons (sVar 10) rNil))))) t_law_15
def t_law_13 : SS := sSeq (sAsgG (sTup (sCons (sOp ixD (sVar 2) (sNext 1 (sUn lenD (sVar 2)))) (sCons (sOp ixD (sVar 2) (sNext 1 (sUn lenD (sVar 2)))) sNil))) (gT 2 (gCo (gN 10) (gCo (gN 14) gNo)))) t_law_14
def t_law_12 : SS := sSeq (sFz 3 (sFor (iVal (sVar 3)) (gT 5 (gCo (gN 10) (gCo (gN 11) (gCo (gN 5) (gCo (gN 12) (gCo (gN 13) gNo)))))) l_law_3)) t_law_13
def t_law_11 : SS := sSeq (sFz 3 (sAsg 17 (sFk (sPairs2 (sCall 1 m_latest (rCons (sVar 3) rNil)))))) t_law_12
def t_law_10 : SS := sSeq (sFz 3 (sIfS (sOr (sTB (sOp (eqK true) (sFk (sPairs2 (sCall 1 m_earliest (rCons (sVar 16) rNil)))) (sFk (sPairs2 (sFr (sLc (iVal (sVar 2)) [10] (gN 10) tYes' (sTup (sCons (sVar 10) (sCons (sOp mulD (sDix (sVar 7) (sVar 10)) (sVar 15)) sNil))))))))) (sTB (sOp neD (sCall 1 m_late (rCons (sVar 16) rNil)) (sCall 1 m_late (rCons (sVar 3) rNil))))) (sRet (sC (.bool false))) sSkip)) t_law_11
def t_law_9 : SS := sSeq (sAsg 16 (sUn tupD (sFr (sLc (iVal (sBor 3)) [10, 11, 5, 12, 13] (gT 5 (gCo (gN 10) (gCo (gN 11) (gCo (gN 5) (gCo (gN 12) (gCo (gN 13) gNo)))))) tYes' (sTup (sCons (sVar 10) (sCons (sOp mulD (sVar 11) (sVar 15)) (sCons (sVar 5) (sCons (sOp mulD (sVar 12) (sVar 15)) (sCons (sIf (sTB (sOp isD (sVar 13) (sC .none))) (sC .none) (sOp mulD (sVar 13) (sVar 15))) sNil)))))))))) t_law_10
def t_law_8 : SS := sSeq (sAsg 15 (sOp addD (sC (.int 2)) (sNext 1 (sC (.int 3))))) t_law_9
def t_law_7 : SS := sSeq (sFz 3 (sFor (iVal (sVar 3)) (gT 5 (gCo (gN 10) (gCo (gN 11) (gCo (gN 5) (gCo (gN 12) (gCo (gN 13) gNo)))))) l_law_2)) t_law_8
def t_law_6 : SS := sSeq (sFz 3 (sAsgG (sTup (sCons (sFk (sPairs2 (sCall 1 m_earliest (rCons (sVar 3) rNil)))) (sCons (sFk (sPairs2 (sFr (sLc (iVal (sBor 3)) [9] (gN 9) tYes' (sTup (sCons (sOp ixD (sVar 9) (sC (.int 0))) (sCons (sOp ixD (sVar 9) (sC (.int 1))) sNil))))))) sNil))) (gT 2 (gCo (gN 7) (gCo (gN 8) gNo))))) t_law_7
def t_law_5 : SS := sSeq (sFz 3 (sIfS (sTB (sOp isnD (sCall 1 m_ring (rCons (sVar 3) rNil)) (sC .none))) (sRet (sC (.bool false))) sSkip)) t_law_6
def t_law_4 : SS := sSeq (sAsg 3 (sUn tupD (sBor 3))) t_law_5
def t_law_3 : SS := sSeq (sFor (iR1 (sUn lenD (sVar 2))) (gN 4) l_law_1) t_law_4
def t_law_2 : SS := sSeq (sOwn 3 (sItems sNil)) t_law_3
def b_law : SS := sSeq (sAsg 2 (sSl (sFr (sItems (sCons (sC (.str "asp")) (sCons (sC (.str "bat")) (sCons (sC (.str "cod")) (sCons (sC (.str "doe")) (sCons (sC (.str "eel")) sNil))))))) sNo (sPart (sOp addD (sC (.int 1)) (sNext 1 (sC (.int 5))))))) t_law_2
theorem w_law (T : Bt ⟨K, P, w⟩ mg) (d__law_draw : Df P w K mg base "_law_draw" 1 ["script"] (spDraw K)) (d__law_next : Df P w K mg base "_law_next" 1 ["draw", "many"] spNext) (d_ring : Df P w K mg base "ring" 2 ["jobs"] (spOf ⟨K, P, w⟩ m_ring 1)) (d_earliest : Df P w K mg base "earliest" 5 ["jobs"] (spOf ⟨K, P, w⟩ m_earliest 1)) (d_late : Df P w K mg base "late" 5 ["jobs"] (spOf ⟨K, P, w⟩ m_late 1)) (d_latest : Df P w K mg base "latest" 4 ["jobs"] (spOf ⟨K, P, w⟩ m_latest 1)) (d_holding_chain : Df P w K mg base "holding_chain" 5 ["jobs", "name"] (spOf ⟨K, P, w⟩ m_holding_chain 2)) (d_gain : Df P w K mg base "gain" 6 ["jobs", "name", "other"] (spOf ⟨K, P, w⟩ m_gain 3)) {f : Addr} {fd : FuncData} (F : Fun K "law" "law" s_law f fd) (hm : b_law kL (env0 25 1)) : FnOk P w K mg base CX0 7 f fd ["script"] (spLaw K) :=
  law_ok2 (i := 1) (m := b_law) F sc_law (by decide) (fun cdv A outer s H E hr => by
    have hu := hu65 hr
    have hr1 := hr.mono (by decide : 1 ≤ 6)
    refine pss_and (pe_draw d__law_draw hr1 (pv 0)) (i := 1) sc_law.nd rfl (by first | exact .inl rfl | exact .inr rfl) (by rfl) (by first | exact .inl rfl | exact .inr rfl) ?_
    exact (mss_cons (ms_set (i := 2) sc_law.nd rfl (by first | exact .inl rfl | exact .inr rfl) (me_sl (me_f (mf_lst (ma_cons (me_str) (ma_cons (me_str) (ma_cons (me_str) (ma_cons (me_str) (ma_cons (me_str) ma_nil))))))) mo_none (mo_some (me_add (b := true) me_int (me_nextD d__law_next hr1 (pv 1) me_int)))))
    (mss_cons (ms_own sc_law.nd rfl (by first | exact .inl rfl | exact .inr rfl) (mf_lst ma_nil))
    (mss_cons (ms_for (ts := [4]) PassesOwn.never rfl (mi_r1 (by rfl) T.b_range (me_len (by rfl) T.b_len (me_var (pv 2)))) (mg_name sc_law.nd rfl (by first | exact .inl rfl | exact .inr rfl) (by decide)) (mss_cons (ms_set (i := 5) sc_law.nd rfl (by first | exact .inl rfl | exact .inr rfl) (me_tuple (by rfl) T.b_tuple (me_f (mf_lc (own := [("j", 6)]) rfl sc_law.nd (mi_r1 (by rfl) T.b_range (me_var (pv 4))) (blkOk_by (own := [("j", 6)]) (N := n_law) (sc := defScope s_law) (by decide +kernel)) (fun _ _ _ _ _ => (mg_name sc_law.nd rfl (by first | exact .inl rfl | exact .inr rfl) (by decide))) (fun _ _ _ _ _ => (mts_one (mt_c (b := true) (c_eq hu) (me_nextD d__law_next hr1 (pv 1) me_int) me_int))) (fun _ _ _ _ _ => (me_ix (me_var (pv 2)) (me_var (pv 6))))))))
    (mss_one (ms_app (pv 3) (me_tup (ma_cons (me_ix (me_var (pv 2)) (me_var (pv 4))) (ma_cons (me_add (b := true) me_int (me_nextD d__law_next hr1 (pv 1) me_int)) (ma_cons (me_var (pv 5)) (ma_cons (me_nextD d__law_next hr1 (pv 1) me_int) (ma_cons (me_if (mt_c (b := true) (c_eq hu) (me_nextD d__law_next hr1 (pv 1) me_int) me_int) me_non (me_add (b := true) me_int (me_nextD d__law_next hr1 (pv 1) me_int))) ma_nil))))))))))
    (mss_cons (ms_set (i := 3) sc_law.nd rfl (by first | exact .inl rfl | exact .inr rfl) (me_tuple (by rfl) T.b_tuple (me_bor (pv 3))))
    (mss_cons (ms_fz 3 (ms_if (mt_c (b := true) c_isn (me_callD d_ring rfl (hr.mono (by decide)) rfl (mr_cons (me_var (pv 3)) mr_nil)) me_non) (mss_one (ms_ret me_bl)) mss_nil))
    (mss_cons (ms_fz 3 (ms_asg (ts := [7, 8]) (me_tup (ma_cons (me_fk (mk_pairs2 rfl (by rfl) T.b_dict (me_callD d_earliest rfl (hr.mono (by decide)) rfl (mr_cons (me_var (pv 3)) mr_nil)))) (ma_cons (me_fk (mk_pairs2 rfl (by rfl) T.b_dict (me_f (mf_lc (own := [("job", 9)]) rfl sc_law.nd (mi_val (me_bor (pv 3))) (blkOk_by (own := [("job", 9)]) (N := n_law) (sc := defScope s_law) (by decide +kernel)) (fun _ _ _ _ _ => (mg_name sc_law.nd rfl (by first | exact .inl rfl | exact .inr rfl) (by decide))) (fun _ _ _ _ _ => mts_nil) (fun _ _ _ _ _ => (me_tup (ma_cons (me_ix (me_var (pv 9)) me_int) (ma_cons (me_ix (me_var (pv 9)) me_int) ma_nil)))))))) ma_nil))) (mg_tup rfl (mgs_cons (mg_name sc_law.nd rfl (by first | exact .inl rfl | exact .inr rfl) (by decide)) (mgs_cons (mg_name sc_law.nd rfl (by first | exact .inl rfl | exact .inr rfl) (by decide)) mgs_nil)))))
    (mss_cons (ms_fz 3 (ms_for (ts := [10, 11, 5, 12, 13]) PassesOwn.never rfl (mi_val (me_var (pv 3))) (mg_tup rfl (mgs_cons (mg_name sc_law.nd rfl (by first | exact .inl rfl | exact .inr rfl) (by decide)) (mgs_cons (mg_name sc_law.nd rfl (by first | exact .inl rfl | exact .inr rfl) (by decide)) (mgs_cons (mg_name sc_law.nd rfl (by first | exact .inl rfl | exact .inr rfl) (by decide)) (mgs_cons (mg_name sc_law.nd rfl (by first | exact .inl rfl | exact .inr rfl) (by decide)) (mgs_cons (mg_name sc_law.nd rfl (by first | exact .inl rfl | exact .inr rfl) (by decide)) mgs_nil)))))) (mss_cons (ms_if (mt_w (mw_or (mt_c (b := true) (c_lt hu) (me_dix hu (me_var (pv 7)) (me_var (pv 10))) (me_var (pv 12))) (mw_or1 (mt_tru (me_any rfl (by rfl) T.b_any (me_f (mf_lc (own := [("other", 14)]) rfl sc_law.nd (mi_val (me_var (pv 5))) (blkOk_by (own := [("other", 14)]) (N := n_law) (sc := defScope s_law) (by decide +kernel)) (fun _ _ _ _ _ => (mg_name sc_law.nd rfl (by first | exact .inl rfl | exact .inr rfl) (by decide))) (fun _ _ _ _ _ => mts_nil) (fun _ _ _ _ _ => (me_c (b := true) (c_gt hu) (me_add (b := true) (me_dix hu (me_var (pv 7)) (me_var (pv 14))) (me_dix hu (me_var (pv 8)) (me_var (pv 14)))) (me_dix hu (me_var (pv 7)) (me_var (pv 10)))))))))))) (mss_one (ms_ret me_bl)) mss_nil)
    (mss_one (ms_if (mt_c (b := true) (c_ne hu) (me_dix hu (me_var (pv 7)) (me_var (pv 10))) (me_max rfl (by rfl) T.b_max (me_add (b := true) (me_f (mf_lst (ma_cons (me_var (pv 12)) ma_nil))) (me_f (mf_lc (own := [("other", 14)]) rfl sc_law.nd (mi_val (me_var (pv 5))) (blkOk_by (own := [("other", 14)]) (N := n_law) (sc := defScope s_law) (by decide +kernel)) (fun _ _ _ _ _ => (mg_name sc_law.nd rfl (by first | exact .inl rfl | exact .inr rfl) (by decide))) (fun _ _ _ _ _ => mts_nil) (fun _ _ _ _ _ => (me_add (b := true) (me_dix hu (me_var (pv 7)) (me_var (pv 14))) (me_dix hu (me_var (pv 8)) (me_var (pv 14)))))))))) (mss_one (ms_ret me_bl)) mss_nil)))))
    (mss_cons (ms_set (i := 15) sc_law.nd rfl (by first | exact .inl rfl | exact .inr rfl) (me_add (b := true) me_int (me_nextD d__law_next hr1 (pv 1) me_int)))
    (mss_cons (ms_set (i := 16) sc_law.nd rfl (by first | exact .inl rfl | exact .inr rfl) (me_tuple (by rfl) T.b_tuple (me_f (mf_lc (own := [("name", 10), ("long", 11), ("needs", 5), ("ready", 12), ("due", 13)]) rfl sc_law.nd (mi_val (me_bor (pv 3))) (blkOk_by (own := [("name", 10), ("long", 11), ("needs", 5), ("ready", 12), ("due", 13)]) (N := n_law) (sc := defScope s_law) (by decide +kernel)) (fun _ _ _ _ _ => (mg_tup rfl (mgs_cons (mg_name sc_law.nd rfl (by first | exact .inl rfl | exact .inr rfl) (by decide)) (mgs_cons (mg_name sc_law.nd rfl (by first | exact .inl rfl | exact .inr rfl) (by decide)) (mgs_cons (mg_name sc_law.nd rfl (by first | exact .inl rfl | exact .inr rfl) (by decide)) (mgs_cons (mg_name sc_law.nd rfl (by first | exact .inl rfl | exact .inr rfl) (by decide)) (mgs_cons (mg_name sc_law.nd rfl (by first | exact .inl rfl | exact .inr rfl) (by decide)) mgs_nil))))))) (fun _ _ _ _ _ => mts_nil) (fun _ _ _ _ _ => (me_tup (ma_cons (me_var (pv 10)) (ma_cons (me_mul (b := true) (me_var (pv 11)) (me_var (pv 15))) (ma_cons (me_var (pv 5)) (ma_cons (me_mul (b := true) (me_var (pv 12)) (me_var (pv 15))) (ma_cons (me_if (mt_c (b := true) c_is (me_var (pv 13)) me_non) me_non (me_mul (b := true) (me_var (pv 13)) (me_var (pv 15)))) ma_nil)))))))))))
    (mss_cons (ms_fz 3 (ms_if (mt_w (mw_or (mt_c (b := true) (c_kqN hu) (me_fk (mk_pairs2 rfl (by rfl) T.b_dict (me_callD d_earliest rfl (hr.mono (by decide)) rfl (mr_cons (me_var (pv 16)) mr_nil)))) (me_fk (mk_pairs2 rfl (by rfl) T.b_dict (me_f (mf_lc (own := [("name", 10)]) rfl sc_law.nd (mi_val (me_var (pv 2))) (blkOk_by (own := [("name", 10)]) (N := n_law) (sc := defScope s_law) (by decide +kernel)) (fun _ _ _ _ _ => (mg_name sc_law.nd rfl (by first | exact .inl rfl | exact .inr rfl) (by decide))) (fun _ _ _ _ _ => mts_nil) (fun _ _ _ _ _ => (me_tup (ma_cons (me_var (pv 10)) (ma_cons (me_mul (b := true) (me_dix hu (me_var (pv 7)) (me_var (pv 10))) (me_var (pv 15))) ma_nil))))))))) (mw_or1 (mt_c (b := true) (c_ne hu) (me_callD d_late rfl (hr.mono (by decide)) rfl (mr_cons (me_var (pv 16)) mr_nil)) (me_callD d_late rfl (hr.mono (by decide)) rfl (mr_cons (me_var (pv 3)) mr_nil)))))) (mss_one (ms_ret me_bl)) mss_nil))
    (mss_cons (ms_fz 3 (ms_set (i := 17) sc_law.nd rfl (by first | exact .inl rfl | exact .inr rfl) (me_fk (mk_pairs2 rfl (by rfl) T.b_dict (me_callD d_latest rfl (hr.mono (by decide)) rfl (mr_cons (me_var (pv 3)) mr_nil))))))
    (mss_cons (ms_fz 3 (ms_for (ts := [10, 11, 5, 12, 13]) PassesOwn.never rfl (mi_val (me_var (pv 3))) (mg_tup rfl (mgs_cons (mg_name sc_law.nd rfl (by first | exact .inl rfl | exact .inr rfl) (by decide)) (mgs_cons (mg_name sc_law.nd rfl (by first | exact .inl rfl | exact .inr rfl) (by decide)) (mgs_cons (mg_name sc_law.nd rfl (by first | exact .inl rfl | exact .inr rfl) (by decide)) (mgs_cons (mg_name sc_law.nd rfl (by first | exact .inl rfl | exact .inr rfl) (by decide)) (mgs_cons (mg_name sc_law.nd rfl (by first | exact .inl rfl | exact .inr rfl) (by decide)) mgs_nil)))))) (mss_cons (ms_if (mt_w (mw_and (mt_w (mw_and (mt_c (b := true) c_is (me_var (pv 13)) me_non) (mw_and1 (mt_c (b := true) c_is (me_dix hu (me_var (pv 17)) (me_var (pv 10))) me_non)))) (mw_and1 (mt_tru (me_any rfl (by rfl) T.b_any (me_f (mf_lc (own := [("job", 9)]) rfl sc_law.nd (mi_val (me_bor (pv 3))) (blkOk_by (own := [("job", 9)]) (N := n_law) (sc := defScope s_law) (by decide +kernel)) (fun _ _ _ _ _ => (mg_name sc_law.nd rfl (by first | exact .inl rfl | exact .inr rfl) (by decide))) (fun _ _ _ _ _ => mts_nil) (fun _ _ _ _ _ => (me_and (me_c (b := true) (c_in hu) (me_var (pv 10)) (me_ix (me_var (pv 9)) me_int)) (me_one (me_c (b := true) c_isn (me_dix hu (me_var (pv 17)) (me_ix (me_var (pv 9)) me_int)) me_non))))))))))) (mss_one (ms_ret me_bl)) mss_nil)
    (mss_cons (ms_if (mt_w (mw_and (mt_c (b := true) c_isn (me_dix hu (me_var (pv 17)) (me_var (pv 10))) me_non) (mw_and1 (mt_w (mw_or (mt_w (mw_and (mt_c (b := true) c_isn (me_var (pv 13)) me_non) (mw_and1 (mt_c (b := true) (c_gt hu) (me_add (b := true) (me_dix hu (me_var (pv 17)) (me_var (pv 10))) (me_var (pv 11))) (me_var (pv 13)))))) (mw_or1 (mt_tru (me_any rfl (by rfl) T.b_any (me_f (mf_lc (own := [("job", 9)]) rfl sc_law.nd (mi_val (me_bor (pv 3))) (blkOk_by (own := [("job", 9)]) (N := n_law) (sc := defScope s_law) (by decide +kernel)) (fun _ _ _ _ _ => (mg_name sc_law.nd rfl (by first | exact .inl rfl | exact .inr rfl) (by decide))) (fun _ _ _ _ _ => mts_nil) (fun _ _ _ _ _ => (me_and (me_c (b := true) (c_in hu) (me_var (pv 10)) (me_ix (me_var (pv 9)) me_int)) (me_and (me_c (b := true) c_isn (me_dix hu (me_var (pv 17)) (me_ix (me_var (pv 9)) me_int)) me_non) (me_one (me_c (b := true) (c_gt hu) (me_add (b := true) (me_dix hu (me_var (pv 17)) (me_var (pv 10))) (me_var (pv 11))) (me_dix hu (me_var (pv 17)) (me_ix (me_var (pv 9)) me_int))))))))))))))))) (mss_one (ms_ret me_bl)) mss_nil)
    (mss_cons (ms_fz 3 (ms_if (mt_w (mw_and (mt_c (b := true) c_isn (me_dix hu (me_var (pv 17)) (me_var (pv 10))) me_non) (mw_and (mt_c (b := true) (c_gt hu) (me_dix hu (me_var (pv 7)) (me_var (pv 10))) (me_dix hu (me_var (pv 17)) (me_var (pv 10)))) (mw_and1 (mt_c (b := true) (c_eq hu) (me_callD d_late rfl (hr.mono (by decide)) rfl (mr_cons (me_var (pv 3)) mr_nil)) (me_tup ma_nil)))))) (mss_one (ms_ret me_bl)) mss_nil))
    (mss_one (ms_fz 3 (ms_if (mt_w (mw_and (mt_c (b := true) c_isn (me_var (pv 13)) me_non) (mw_and (mt_c (b := true) (c_gt hu) (me_add (b := true) (me_dix hu (me_var (pv 7)) (me_var (pv 10))) (me_var (pv 11))) (me_var (pv 13))) (mw_and1 (mt_w (mw_or (mt_c (b := true) (c_nin hu) (me_var (pv 10)) (me_callD d_late rfl (hr.mono (by decide)) rfl (mr_cons (me_var (pv 3)) mr_nil))) (mw_or1 (mt_c (b := true) (c_le hu) (me_dix hu (me_var (pv 7)) (me_var (pv 10))) (me_dix hu (me_var (pv 17)) (me_var (pv 10))))))))))) (mss_one (ms_ret me_bl)) mss_nil))))))))
    (mss_cons (ms_asg (ts := [10, 14]) (me_tup (ma_cons (me_ix (me_var (pv 2)) (me_nextD d__law_next hr1 (pv 1) (me_len (by rfl) T.b_len (me_var (pv 2))))) (ma_cons (me_ix (me_var (pv 2)) (me_nextD d__law_next hr1 (pv 1) (me_len (by rfl) T.b_len (me_var (pv 2))))) ma_nil))) (mg_tup rfl (mgs_cons (mg_name sc_law.nd rfl (by first | exact .inl rfl | exact .inr rfl) (by decide)) (mgs_cons (mg_name sc_law.nd rfl (by first | exact .inl rfl | exact .inr rfl) (by decide)) mgs_nil))))
    (mss_cons (ms_fz 3 (ms_set (i := 18) sc_law.nd rfl (by first | exact .inl rfl | exact .inr rfl) (me_callD d_holding_chain rfl (hr.mono (by decide)) rfl (mr_cons (me_var (pv 3)) (mr_cons (me_var (pv 10)) mr_nil)))))
    (mss_cons (ms_if (mt_w (mw_or (mt_c (b := true) (c_ne hu) (me_ix (me_var (pv 18)) (me_neg (b := true) me_int)) (me_var (pv 10))) (mw_or (mt_tru (me_any rfl (by rfl) T.b_any (me_f (mf_lc (own := [("one", 19), ("two", 20)]) rfl sc_law.nd (mi_zip (by rfl) T.b_zip (me_var (pv 18)) (me_sl (me_var (pv 18)) (mo_some me_int) mo_none)) (blkOk_by (own := [("one", 19), ("two", 20)]) (N := n_law) (sc := defScope s_law) (by decide +kernel)) (fun _ _ _ _ _ => (mg_tup rfl (mgs_cons (mg_name sc_law.nd rfl (by first | exact .inl rfl | exact .inr rfl) (by decide)) (mgs_cons (mg_name sc_law.nd rfl (by first | exact .inl rfl | exact .inr rfl) (by decide)) mgs_nil)))) (fun _ _ _ _ _ => mts_nil) (fun _ _ _ _ _ => (me_c (b := true) (c_ne hu) (me_add (b := true) (me_dix hu (me_var (pv 7)) (me_var (pv 19))) (me_dix hu (me_var (pv 8)) (me_var (pv 19)))) (me_dix hu (me_var (pv 7)) (me_var (pv 20))))))))) (mw_or1 (mt_c (b := true) (c_ne hu) (me_dix hu (me_var (pv 7)) (me_ix (me_var (pv 18)) me_int)) (me_ix (me_f (mf_lc (own := [("job", 9)]) rfl sc_law.nd (mi_val (me_bor (pv 3))) (blkOk_by (own := [("job", 9)]) (N := n_law) (sc := defScope s_law) (by decide +kernel)) (fun _ _ _ _ _ => (mg_name sc_law.nd rfl (by first | exact .inl rfl | exact .inr rfl) (by decide))) (fun _ _ _ _ _ => (mts_one (mt_c (b := true) (c_eq hu) (me_ix (me_var (pv 9)) me_int) (me_ix (me_var (pv 18)) me_int)))) (fun _ _ _ _ _ => (me_ix (me_var (pv 9)) me_int)))) me_int)))))) (mss_one (ms_ret me_bl)) mss_nil)
    (mss_cons (ms_fz 3 (ms_set (i := 21) sc_law.nd rfl (by first | exact .inl rfl | exact .inr rfl) (me_callD d_gain rfl (hr.mono (by decide)) rfl (mr_cons (me_var (pv 3)) (mr_cons (me_var (pv 14)) (mr_cons (me_var (pv 10)) mr_nil))))))
    (mss_cons (ms_if (mt_w (mw_or (mt_not (mt_ch (b := true) (c_le hu) (c_le hu) me_int (me_var (pv 21)) (me_dix hu (me_var (pv 8)) (me_var (pv 14))))) (mw_or (mt_w (mw_and (mt_c (b := true) (c_nin hu) (me_var (pv 14)) (me_var (pv 18))) (mw_and1 (mt_c (b := true) (c_ne hu) (me_var (pv 21)) me_int)))) (mw_or1 (mt_w (mw_and (mt_c (b := true) (c_eq hu) (me_var (pv 10)) (me_var (pv 14))) (mw_and1 (mt_c (b := true) (c_ne hu) (me_var (pv 21)) (me_dix hu (me_var (pv 8)) (me_var (pv 10))))))))))) (mss_one (ms_ret me_bl)) mss_nil)
    (mss_cons (ms_set (i := 4) sc_law.nd rfl (by first | exact .inl rfl | exact .inr rfl) (me_nextD d__law_next hr1 (pv 1) (me_len (by rfl) T.b_len (me_var (pv 2)))))
    (mss_cons (ms_if (mt_c (b := true) (c_gt hu) (me_var (pv 4)) me_int) (mss_cons (ms_set (i := 22) sc_law.nd rfl (by first | exact .inl rfl | exact .inr rfl) (me_add (b := true) (me_add (b := true) (me_sl (me_bor (pv 3)) mo_none (mo_some (me_var (pv 4)))) (me_tup (ma_cons (me_tup (ma_cons (me_ix (me_var (pv 2)) (me_var (pv 4))) (ma_cons (me_ix (me_ix (me_bor (pv 3)) (me_var (pv 4))) me_int) (ma_cons (me_tuple (by rfl) T.b_tuple (me_f (mf_srtSetU rfl (by rfl) T.b_sorted (by rfl) T.b_set (me_add (b := true) (me_ix (me_ix (me_bor (pv 3)) (me_var (pv 4))) me_int) (me_tup (ma_cons (me_ix (me_var (pv 2)) (me_nextD d__law_next hr1 (pv 1) (me_var (pv 4)))) ma_nil)))))) (ma_cons (me_ix (me_ix (me_bor (pv 3)) (me_var (pv 4))) me_int) (ma_cons (me_ix (me_ix (me_bor (pv 3)) (me_var (pv 4))) me_int) ma_nil)))))) ma_nil))) (me_sl (me_bor (pv 3)) (mo_some (me_add (b := true) (me_var (pv 4)) me_int)) mo_none)))
    (mss_cons (ms_set (i := 23) sc_law.nd rfl (by first | exact .inl rfl | exact .inr rfl) (me_fk (mk_pairs2 rfl (by rfl) T.b_dict (me_callD d_earliest rfl (hr.mono (by decide)) rfl (mr_cons (me_var (pv 22)) mr_nil)))))
    (mss_one (ms_fz 3 (ms_if (mt_w (mw_or (mt_tru (me_any rfl (by rfl) T.b_any (me_f (mf_lc (own := [("one", 19)]) rfl sc_law.nd (mi_val (me_var (pv 2))) (blkOk_by (own := [("one", 19)]) (N := n_law) (sc := defScope s_law) (by decide +kernel)) (fun _ _ _ _ _ => (mg_name sc_law.nd rfl (by first | exact .inl rfl | exact .inr rfl) (by decide))) (fun _ _ _ _ _ => mts_nil) (fun _ _ _ _ _ => (me_c (b := true) (c_lt hu) (me_dix hu (me_var (pv 23)) (me_var (pv 19))) (me_dix hu (me_var (pv 7)) (me_var (pv 19))))))))) (mw_or1 (mt_tru (me_any rfl (by rfl) T.b_any (me_f (mf_lc (own := [("one", 19)]) rfl sc_law.nd (mi_val (me_callD d_late rfl (hr.mono (by decide)) rfl (mr_cons (me_var (pv 3)) mr_nil))) (blkOk_by (own := [("one", 19)]) (N := n_law) (sc := defScope s_law) (by decide +kernel)) (fun _ _ _ _ _ => (mg_name sc_law.nd rfl (by first | exact .inl rfl | exact .inr rfl) (by decide))) (fun _ _ _ _ _ => mts_nil) (fun _ _ _ _ _ => (me_c (b := true) (c_nin hu) (me_var (pv 19)) (me_callD d_late rfl (hr.mono (by decide)) rfl (mr_cons (me_var (pv 22)) mr_nil))))))))))) (mss_one (ms_ret me_bl)) mss_nil))))) mss_nil)
    (mss_cons (ms_set (i := 24) sc_law.nd rfl (by first | exact .inl rfl | exact .inr rfl) (me_add (b := true) (me_add (b := true) (me_sl (me_bor (pv 3)) mo_none (mo_some me_int)) (me_tup (ma_cons (me_tup (ma_cons (me_add (b := true) (me_ix (me_ix (me_bor (pv 3)) me_int) me_int) (me_str)) (ma_cons me_int (ma_cons (me_tup (ma_cons (me_ix (me_ix (me_bor (pv 3)) me_int) me_int) ma_nil)) (ma_cons me_int (ma_cons me_non ma_nil)))))) ma_nil))) (me_sl (me_bor (pv 3)) (mo_some me_int) mo_none)))
    (mss_cons (ms_set (i := 24) sc_law.nd rfl (by first | exact .inl rfl | exact .inr rfl) (me_add (b := true) (me_tup (ma_cons (me_tup (ma_cons (me_ix (me_ix (me_bor (pv 3)) me_int) me_int) (ma_cons (me_ix (me_ix (me_bor (pv 3)) me_int) me_int) (ma_cons (me_tup (ma_cons (me_add (b := true) (me_ix (me_ix (me_bor (pv 3)) me_int) me_int) (me_str)) ma_nil)) (ma_cons (me_ix (me_ix (me_bor (pv 3)) me_int) me_int) (ma_cons (me_ix (me_ix (me_bor (pv 3)) me_int) me_int) ma_nil)))))) ma_nil)) (me_sl (me_var (pv 24)) (mo_some me_int) mo_none)))
    (mss_one (ms_ret (me_c (b := true) (c_eq hu) (me_callD d_ring rfl (hr.mono (by decide)) rfl (mr_cons (me_var (pv 24)) mr_nil)) (me_tup (ma_cons (me_ix (me_ix (me_bor (pv 3)) me_int) me_int) (ma_cons (me_add (b := true) (me_ix (me_ix (me_bor (pv 3)) me_int) me_int) (me_str)) ma_nil)))))))))))))))))))))))))))) hm
end
end Mi

namespace Mi
open PySem PySem.Spec L2
/-! ### dicts of text to number, as a row of keys and a function -/
theorem dI_map {α : Type} (g : α → Int) (xs : List α) : (xs.map fun a => PyData.int (g a)) = dInts (xs.map g) := by unfold dInts; rw [List.map_map]; rfl
theorem rng_lenI (a c : Int) : (rng a c).length = (c - a).toNat := by
  unfold rng
  rw [List.length_map, List.length_range]
theorem mem_rng {a c x : Int} : x ∈ rng a c ↔ a ≤ x ∧ x < c := by
  unfold rng
  simp only [List.mem_map, List.mem_range]
  constructor
  · rintro ⟨i, hi, rfl⟩
    omega
  · intro h
    exact ⟨(x - a).toNat, by omega, by omega⟩
theorem rng_succ {a c : Int} (h : a ≤ c) : rng a (c + 1) = rng a c ++ [c] := by
  unfold rng
  rw [show (c + 1 - a).toNat = (c - a).toNat + 1 by omega, List.range_succ, List.map_append]
  simp
  omega
def kvO (ks : List Str) (v : Str → Int) : List (Key × D) := ks.map fun s => (.inr s, .int (v s))
def insS (ks : List Str) (s : Str) : List Str := if s ∈ ks then ks else ks ++ [s]
def updS (v : Str → Int) (s : Str) (x : Int) : Str → Int := fun t => if t = s then x else v t
theorem kv_congr {ks : List Str} {v v' : Str → Int} (h : ∀ s ∈ ks, v s = v' s) : kvO ks v = kvO ks v' := List.map_congr_left fun s hs => by rw [h s hs]
theorem kv_any {ks : List Str} {v : Str → Int} {s : Str} : ((kvO ks v).any fun p => decide (p.1 = .inr s)) = decide (s ∈ ks) := by
  unfold kvO
  induction ks with
  | nil => simp
  | cons a ks ih =>
    rw [List.map_cons, List.any_cons, ih]
    by_cases c : a = s
    · simp [c]
    · have c2 : ¬ s = a := fun z => c z.symm
      simp [c, c2]
theorem kv_put {ks : List Str} {v : Str → Int} {s : Str} {x : Int} : putG (kvO ks v) (.inr s) (.int x) = kvO (insS ks s) (updS v s x) := by
  unfold putG insS
  rw [kv_any]
  by_cases c : s ∈ ks
  · rw [if_pos (by simpa using c), if_pos c]
    unfold kvO
    rw [List.map_map]
    refine List.map_congr_left fun t _ => ?_
    unfold updS
    by_cases c2 : t = s
    · subst c2; simp
    · simp [c2]
  · rw [if_neg (by simpa using c), if_neg c]
    unfold kvO
    rw [List.map_append]
    congr 1
    · refine List.map_congr_left fun t ht => ?_
      have : ¬ t = s := fun z => c (z ▸ ht)
      unfold updS
      rw [if_neg this]
    · simp [updS]
theorem kv_get {v : Str → Int} {s : Str} : ∀ {ks : List Str}, s ∈ ks → getG (kvO ks v) (.inr s) = some (.int (v s))
  | a :: ks, h => by
    unfold getG kvO
    rw [List.map_cons, List.find?_cons]
    by_cases c : a = s
    · simp [c]
    · have h2 : s ∈ ks := by
        rcases List.mem_cons.mp h with z | z
        · exact absurd z.symm c
        · exact z
      have := kv_get (v := v) h2
      unfold getG kvO at this
      simp [c]
      simpa using this
theorem kv_no {v : Str → Int} {s : Str} {ks : List Str} (h : s ∉ ks) : getG (kvO ks v) (.inr s) = none := getG_none fun p hp e => by
  obtain ⟨t, ht, rfl⟩ := List.mem_map.mp hp
  cases e
  exact h ht
theorem kv_keys {ks : List Str} {v : Str → Int} : (kvO ks v).map (fun p => kD p.1) = ks.map PyData.str := by
  unfold kvO
  rw [List.map_map]
  rfl
theorem kv_len {ks : List Str} {v : Str → Int} : (kvO ks v).length = ks.length := List.length_map _
theorem kv_ndk {ks : List Str} {v : Str → Int} (h : ks.Nodup) : ((kvO ks v).map (·.1)).Nodup := by
  unfold kvO
  rw [List.map_map]
  exact kinr_nodup h
def addK (ks : List Str) (ts : List Str) : List Str := ts.foldl insS ks
theorem addK_mem : ∀ (ts ks : List Str) (x : Str), x ∈ addK ks ts ↔ x ∈ ks ∨ x ∈ ts
  | [], ks, x => by simp [addK]
  | t :: ts, ks, x => by
    show x ∈ addK (insS ks t) ts ↔ _
    rw [addK_mem ts]
    unfold insS
    by_cases c : t ∈ ks
    · rw [if_pos c]
      constructor
      · rintro (h | h)
        · exact .inl h
        · exact .inr (List.mem_cons_of_mem _ h)
      · rintro (h | h)
        · exact .inl h
        · rcases List.mem_cons.mp h with e | e
          · subst e; exact .inl c
          · exact .inr e
    · rw [if_neg c]
      simp [or_assoc]
theorem addK_nd : ∀ (ts ks : List Str), ks.Nodup → (addK ks ts).Nodup
  | [], ks, h => h
  | t :: ts, ks, h => by
    refine addK_nd ts (insS ks t) ?_
    unfold insS
    by_cases c : t ∈ ks
    · rw [if_pos c]; exact h
    · rw [if_neg c]
      refine List.nodup_append.mpr ⟨h, by simp, fun a ha b hb e => ?_⟩
      have : b = t := by simpa using hb
      exact c (by rw [← this, ← e]; exact ha)
theorem addK_len : ∀ (ts ks : List Str), (addK ks ts).length ≤ ks.length + ts.length
  | [], ks => by simp [addK]
  | t :: ts, ks => by
    have h := addK_len ts (insS ks t)
    show (addK (insS ks t) ts).length ≤ _
    have h2 : (insS ks t).length ≤ ks.length + 1 := by
      unfold insS
      by_cases c : t ∈ ks
      · rw [if_pos c]; omega
      · rw [if_neg c, List.length_append]; simp
    rw [List.length_cons]
    omega
theorem lokv : Lo (fun p : Str × Int => PyData.tuple [.str p.1, .int p.2]) (ltP ltS ltI) := lo_pair lo_str lo_int
theorem srt_kv {ks : List Str} {v : Str → Int} (nd : ks.Nodup) : srt ((kvO ks v).map itD) = (ssort ks).map fun s => .tuple [.str s, .int (v s)] := by
  have e : (kvO ks v).map itD = (ks.map fun s => (s, v s)).map fun p : Str × Int => PyData.tuple [.str p.1, .int p.2] := by
    unfold kvO
    rw [List.map_map, List.map_map]
    rfl
  rw [e, lokv.srt]
  have hs := ssort_so ks
  have hn : (ssort ks).Nodup := (ssort_perm ks).nodup_iff.mpr nd
  rw [lokv.srt_of (ys := (ssort ks).map fun s => (s, v s)) ((ssort_perm ks).map _) ?_]
  · rw [List.map_map]
    rfl
  · refine List.pairwise_map.mpr (List.Pairwise.imp (fun {a c} h => ?_) (hs.and hn))
    obtain ⟨h1, h2⟩ := h
    have h2 : ¬ c = a := fun z => h2 z.symm
    show ltP ltS ltI (c, v c) (a, v a) = false
    unfold ltP
    simp only [h2, if_false]
    unfold ltS
    unfold leS at h1
    simpa using h1
theorem keysS_kv {ks : List Str} {v : Str → Int} : keysS (kvO ks v) = some ks := by
  have := keysS_map (fun s : Str => s) (fun s => .int (v s)) ks
  simpa [kvO] using this

end Mi

namespace Mi
open PySem PySem.Spec L2
/-! ### dicts of text to anything, as a row of keys and a function -/
def kvD (ks : List Str) (v : Str → D) : List (Key × D) := ks.map fun s => (.inr s, v s)
theorem kvD_get {v : Str → D} {s : Str} : ∀ {ks : List Str}, s ∈ ks → getG (kvD ks v) (.inr s) = some (v s)
  | a :: ks, h => by
    unfold getG kvD
    rw [List.map_cons, List.find?_cons]
    by_cases c : a = s
    · simp [c]
    · have h2 : s ∈ ks := by
        rcases List.mem_cons.mp h with z | z
        · exact absurd z.symm c
        · exact z
      have := kvD_get (v := v) h2
      unfold getG kvD at this
      simp [c]
      simpa using this
theorem kvD_no {v : Str → D} {s : Str} {ks : List Str} (h : s ∉ ks) : getG (kvD ks v) (.inr s) = none := getG_none fun p hp e => by
  obtain ⟨t, ht, rfl⟩ := List.mem_map.mp hp
  cases e
  exact h ht
theorem kvD_len {ks : List Str} {v : Str → D} : (kvD ks v).length = ks.length := List.length_map _
theorem kvD_put_new {ks : List Str} {v : Str → D} {s : Str} (h : s ∉ ks) (x : D) : putG (kvD ks v) (.inr s) x = kvD ks v ++ [(.inr s, x)] := by
  unfold putG
  have : ((kvD ks v).any fun p => decide (p.1 = .inr s)) = false := by
    rw [List.any_eq_false]
    intro p hp
    obtain ⟨t, ht, rfl⟩ := List.mem_map.mp hp
    have : ¬ t = s := fun z => h (z ▸ ht)
    simp [this]
  rw [this]
  rfl
theorem dc_kvD {g : SG} {mk mv : SE} {env : En} {f : Str → D} {enc : Str → D} : ∀ (us ks : List Str) (Q : List (Key × D) → Prop), (∀ s ∈ us, ∀ (R : D → D → Prop), R (.str s) (f s) → g (enc s) env fun e1 => mk e1 fun z => mv e1 fun r => R z r) → (ks ++ us).Nodup → Q (kvD (ks ++ us) f) → dcGo g tYes' mk mv env (us.map enc) (kvD ks f) Q
  | [], ks, Q, _, _, q => by
    rw [List.append_nil] at q
    exact q
  | s :: us, ks, Q, hs, nd, q => by
    have h1 := hs s (by simp) (fun z r => obY (keyOf z) fun key => dcGo g tYes' mk mv env (us.map enc) (putG (kvD ks f) key r) Q) ?_
    · exact h1
    · show dcGo g tYes' mk mv env (us.map enc) (putG (kvD ks f) (.inr s) (f s)) Q
      have ns : s ∉ ks := fun z => (List.nodup_append.mp nd).2.2 s z s (by simp) rfl
      rw [kvD_put_new ns]
      have e : kvD ks f ++ [(.inr s, f s)] = kvD (ks ++ [s]) f := by unfold kvD; rw [List.map_append]; rfl
      rw [e]
      exact dc_kvD us (ks ++ [s]) Q (fun t ht => hs t (List.mem_cons_of_mem _ ht)) (by simpa using nd) (by simpa using q)
theorem pairs_kvD {ks : List Str} (nd : ks.Nodup) (f : Str → D) : pairsOf (ks.map fun s => .tuple [.str s, f s]) = some (kvD ks f) ∧ mergeG [] (kvD ks f) = kvD ks f := by
  refine ⟨pairsOf_map (fun s : Str => (.inr s : Key)) f ks, ?_⟩
  rw [mergeG_nodup]
  · rfl
  · rw [List.nil_append]
    unfold kvD
    rw [List.map_map]
    exact kinr_nodup nd

end Mi

namespace Mi
open PySem PySem.Spec L2
/-! ### chains: jobs with needs -/
structure CJ where
  ks : List Str
  lg : Str → Int
  nd : Str → List Str
  rd : Str → Int
  du : Str → Option Int
def NmO (s : Str) : Prop := (PyData.str s).canLay0 = true ∧ s.length ≤ 100
theorem flat_nm {s : Str} (h : NmO s) : flatD 1 (.str s) = true := by simp [flatD, h.1]
def dOI : Option Int → D
  | none => .none
  | some i => .int i
structure COk (J : CJ) : Prop where
  so : J.ks.Pairwise fun a b => ltS a b = true
  ne : J.ks ≠ []
  len : J.ks.length ≤ 6
  lg0 : ∀ s ∈ J.ks, 0 ≤ J.lg s
  rd0 : ∀ s ∈ J.ks, 0 ≤ J.rd s
  nds : ∀ s ∈ J.ks, ∀ t ∈ J.nd s, t ∈ J.ks
  ndn : ∀ s ∈ J.ks, (J.nd s).Nodup
  nm : ∀ s ∈ J.ks, NmO s
def jbD (J : CJ) (s : Str) : D := .tuple [.str s, .int (J.lg s), .tuple (dStrs (J.nd s)), .int (J.rd s), dOI (J.du s)]
def joD (J : CJ) : D := .tuple (J.ks.map (jbD J))
theorem ltS_irr (s : Str) : ltS s s = false := by
  cases e : ltS s s with
  | false => rfl
  | true => have := lo_str.as _ _ e; rw [e] at this; cases this
theorem ltS_nd {xs : List Str} (h : xs.Pairwise fun a b => ltS a b = true) : xs.Nodup := h.imp fun {a b} hab e => by
  subst e; rw [ltS_irr] at hab; cases hab
theorem nd_sub_len : ∀ {xs ys : List Str}, xs.Nodup → (∀ x ∈ xs, x ∈ ys) → xs.length ≤ ys.length
  | [], ys, _, _ => Nat.zero_le _
  | x :: xs, ys, nd, hs => by
    rw [List.nodup_cons] at nd
    have hx : x ∈ ys := hs x (by simp)
    have ih := nd_sub_len (xs := xs) (ys := ys.erase x) nd.2 fun s h => by
      have hne : s ≠ x := fun e => nd.1 (by rw [← e]; exact h)
      exact (List.mem_erase_of_ne hne).mpr (hs s (by simp [h]))
    rw [List.length_erase_of_mem hx] at ih
    have := List.length_pos_of_mem hx
    rw [List.length_cons]
    omega
theorem ssort_id {xs : List Str} (h : xs.Pairwise fun a b => ltS a b = true) : ssort xs = xs := by
  refine (ssort_uniq (List.Perm.refl _) (h.imp fun {a b} hab => ?_)).symm
  have := lo_str.as _ _ hab
  unfold ltS at this
  unfold leS
  rw [this]; rfl
theorem srtL_id {xs : List Str} (h : xs.Pairwise fun a b => ltS a b = true) : srtL ltS xs = xs := lo_str.srt_of (List.Perm.refl _) (h.imp fun {a b} hab => lo_str.as _ _ hab)
section
variable {J : CJ} {Q : D → Prop} {s t : Str}
theorem COk.nd (ok : COk J) : J.ks.Nodup := ltS_nd ok.so
theorem COk.ndl (ok : COk J) (hs : s ∈ J.ks) : (J.nd s).length ≤ 6 := Nat.le_trans (nd_sub_len (ok.ndn s hs) (ok.nds s hs)) ok.len
theorem COk.sn (ok : COk J) (hs : s ∈ J.ks) (ht : t ∈ J.nd s) : NmO t := ok.nm t (ok.nds s hs t ht)
theorem by_name_ok (ok : COk J) (q : Q (lkD (kvD J.ks (jbD J)))) : m_by_name [.v (joD J)] Q := by
  have hl := ok.len
  unfold m_by_name semD b_by_name joD
  simp -implicitDefEqProofs
  unfold t_by_name_2
  simp -implicitDefEqProofs
  refine for_pre (enc := jbD J) (xs := J.ks) (E := fun pre env => ∃ x2, env = [.v (.tuple (J.ks.map (jbD J))), .k (kvD pre (jbD J)), x2]) (fun pre p post env R hx he hR => ?_) (fun e he => ?_) ⟨_, rfl⟩
  · obtain ⟨x2, rfl⟩ := he
    have hp : p ∉ pre := fun hm => by
      have nd := ok.nd
      rw [hx] at nd
      exact (List.nodup_append.mp nd).2.2 p hm p (by simp) rfl
    have hpl : pre.length ≤ 6 := by rw [hx, List.length_append] at hl; omega
    unfold l_by_name_1
    simp -implicitDefEqProofs [jbD]
    rw [kvD_put_new hp, kvD_len]
    refine ⟨by omega, ?_⟩
    have e : kvD pre (jbD J) ++ [(.inr p, jbD J p)] = kvD (pre ++ [p]) (jbD J) := by unfold kvD; rw [List.map_append]; rfl
    have := hR _ ⟨.v (jbD J p), rfl⟩
    rw [← e] at this
    exact this
  · obtain ⟨x2, rfl⟩ := he
    unfold t_by_name_3
    simp -implicitDefEqProofs
    exact q
/-- no ring: every set of jobs has one that needs none of the set -/
def Ac (J : CJ) : Prop := ∀ L : List Str, L ≠ [] → (∀ s ∈ L, s ∈ J.ks) → ∃ s ∈ L, ∀ t ∈ J.nd s, t ∉ L
def rdyF (J : CJ) (found left : List Str) : List Str := left.filter fun s => (J.nd s).all fun t => decide (t ∈ found)
def ordF (J : CJ) : Nat → List Str → List Str → List Str
  | 0, found, _ => found
  | n + 1, found, left => if left = [] then found else ordF J n (found ++ rdyF J found left) (left.filter fun s => !decide (s ∈ rdyF J found left))
def ordL (J : CJ) : List Str := ordF J J.ks.length [] J.ks
structure Topo (J : CJ) (o : List Str) : Prop where
  perm : o.Perm J.ks
  pre : ∀ a s b, o = a ++ s :: b → ∀ t ∈ J.nd s, t ∈ a
theorem rdy_ne (ac : Ac J) {found left : List Str} (hks : (found ++ left).Perm J.ks) (nds : ∀ s ∈ J.ks, ∀ t ∈ J.nd s, t ∈ J.ks) (hne : left ≠ []) : rdyF J found left ≠ [] := by
  have hs : ∀ s ∈ left, s ∈ J.ks := fun s hs => hks.subset (List.mem_append_right _ hs)
  obtain ⟨s, h1, h2⟩ := ac left hne hs
  have : s ∈ rdyF J found left := List.mem_filter.mpr ⟨h1, List.all_eq_true.mpr fun t ht => by
    rcases List.mem_append.mp (hks.symm.subset (nds s (hs s h1) t ht)) with h | h
    · simpa using h
    · exact absurd h (h2 t ht)⟩
  intro e
  rw [e] at this
  cases this
theorem filter_split (p : Str → Bool) : ∀ xs : List Str, (xs.filter p ++ xs.filter fun s => !p s).Perm xs
  | [] => List.Perm.refl _
  | x :: xs => by
    have ih := filter_split p xs
    by_cases c : p x = true
    · rw [List.filter_cons_of_pos c, List.filter_cons_of_neg (by simp [c])]
      exact ih.cons x
    · rw [List.filter_cons_of_neg c, List.filter_cons_of_pos (by simp [c])]
      exact (List.perm_middle).trans (ih.cons x)
theorem rdy_split {found left : List Str} (nd : left.Nodup) : (left.filter fun s => !decide (s ∈ rdyF J found left)) = left.filter fun s => !((J.nd s).all fun t => decide (t ∈ found)) := by
  refine List.filter_congr fun s hs => ?_
  unfold rdyF
  congr 1
  rw [Bool.eq_iff_iff]
  simp [List.mem_filter, hs]
theorem step_perm {found left : List Str} (nd : left.Nodup) (hks : (found ++ left).Perm J.ks) : ((found ++ rdyF J found left) ++ left.filter fun s => !decide (s ∈ rdyF J found left)).Perm J.ks := by
  rw [rdy_split nd, List.append_assoc]
  exact ((filter_split (fun s => (J.nd s).all fun t => decide (t ∈ found)) left).append_left found).trans hks
def Pre (J : CJ) (o : List Str) : Prop := ∀ a s b, o = a ++ s :: b → ∀ t ∈ J.nd s, t ∈ a
theorem pre_app {found ready : List Str} (h : Pre J found) (hr : ∀ s ∈ ready, ∀ t ∈ J.nd s, t ∈ found) : Pre J (found ++ ready) := by
  intro a s b e t ht
  rcases List.append_eq_append_iff.mp e with ⟨c, e1, e2⟩ | ⟨c, e1, e2⟩
  · have : s ∈ ready := by rw [e2]; simp
    rw [e1]
    exact List.mem_append_left _ (hr s this t ht)
  · cases c with
    | nil =>
      have e2 : s :: b = ready := by simpa using e2
      have : s ∈ ready := by rw [← e2]; simp
      have e1 : found = a := by simpa using e1
      rw [← e1]
      exact hr s this t ht
    | cons x c =>
      have e2 := List.cons.inj e2
      exact h a s c (by rw [e1, ← e2.1]) t ht
theorem rdy_pre {found left : List Str} : ∀ s ∈ rdyF J found left, ∀ t ∈ J.nd s, t ∈ found := fun s hs t ht => by
  have := List.all_eq_true.mp (List.mem_filter.mp hs).2 t ht
  simpa using this
theorem rdy_less {found left : List Str} (hne : rdyF J found left ≠ []) : (left.filter fun s => !decide (s ∈ rdyF J found left)).length < left.length := by
  obtain ⟨s, r, e⟩ := List.exists_cons_of_ne_nil hne
  have hs : s ∈ rdyF J found left := by rw [e]; simp
  refine Nat.lt_of_le_of_ne (List.length_filter_le _ _) fun h => ?_
  have := List.length_filter_eq_length_iff.mp h s (List.mem_filter.mp hs).1
  simp [hs] at this
theorem ord_topo (ac : Ac J) (nds : ∀ s ∈ J.ks, ∀ t ∈ J.nd s, t ∈ J.ks) : ∀ (n : Nat) (found left : List Str), left.length ≤ n → left.Nodup → (found ++ left).Perm J.ks → Pre J found → Topo J (ordF J n found left)
  | 0, found, left, hl, _, hp, hpre => by
    rw [List.eq_nil_of_length_eq_zero (Nat.le_zero.mp hl), List.append_nil] at hp
    exact ⟨hp, hpre⟩
  | n + 1, found, left, hl, nd, hp, hpre => by
    unfold ordF
    by_cases c : left = []
    · rw [if_pos c]
      rw [c, List.append_nil] at hp
      exact ⟨hp, hpre⟩
    · rw [if_neg c]
      have := rdy_less (rdy_ne ac hp nds c)
      exact ord_topo ac nds n _ _ (by omega) (nd.sublist List.filter_sublist) (step_perm nd hp) (pre_app hpre rdy_pre)
theorem ordL_topo (ok : COk J) (ac : Ac J) : Topo J (ordL J) := ord_topo ac ok.nds _ _ _ (Nat.le_refl _) ok.nd (List.Perm.refl _) (fun a s b e => by
  have := congrArg List.length e
  simp at this)
theorem order_of_ok (ok : COk J) (ac : Ac J) (q : Q (.list (dStrs (ordL J)))) : m_order_of [.v (joD J)] Q := by
  have hlen := ok.len
  unfold m_order_of semD b_order_of
  simp -implicitDefEqProofs
  unfold t_order_of_2
  simp -implicitDefEqProofs [joD]
  refine lc_all (enc := jbD J) (f := PyData.str) J.ks _ (fun s hs R hR => by simp -implicitDefEqProofs [jbD]; exact hR) ?_
  have hso : SrtOk (dStrs J.ks) := lo_str.srtOk (n := 1) (fun s hm => flat_nm (ok.nm s hm)) (PySem.W.Sortable.others fun _ => ⟨by simp, by simp⟩)
  have hse : srt (dStrs J.ks) = dStrs J.ks := (lo_str.srt J.ks).trans (by rw [srtL_id ok.so]; rfl)
  have e0 : J.ks.map PyData.str = dStrs J.ks := rfl
  rw [e0, hse]
  refine ⟨hso, ?_⟩
  unfold t_order_of_3
  simp -implicitDefEqProofs
  refine up_of (by_name_ok ok rfl) ?_
  unfold t_order_of_4
  simp -implicitDefEqProofs
  refine ⟨J.ks.length + 1, wh_ind (I := fun n env => ∃ found left x3 x5 x6 x7, left.length ≤ n ∧ left.Nodup ∧ (found ++ left).Perm J.ks ∧ ordF J n found left = ordL J ∧ env = [.v (.tuple (J.ks.map (jbD J))), .l (dStrs found), .v (.list (dStrs left)), x3, .v (lkD (kvD J.ks (jbD J))), x5, x6, x7]) (fun n env hI R hR => ?_) J.ks.length _ ⟨[], J.ks, _, _, _, _, Nat.le_refl _, ok.nd, List.Perm.refl _, rfl, rfl⟩⟩
  obtain ⟨found, left, x3, x5, x6, x7, hl, nd, hp, ho, rfl⟩ := hI
  have hfl := hp.length_eq
  rw [List.length_append] at hfl
  have hsub : ∀ s ∈ left, s ∈ J.ks := fun s hs => hp.subset (List.mem_append_right _ hs)
  have hsubf : ∀ s ∈ found, s ∈ J.ks := fun s hs => hp.subset (List.mem_append_left _ hs)
  by_cases c : left = []
  · subst c
    have : ordF J n found [] = found := by cases n <;> simp [ordF]
    rw [this] at ho
    simp -implicitDefEqProofs [dStrs]
    unfold t_order_of_5
    simp -implicitDefEqProofs
    rw [← ho] at q
    exact q
  · have hrne := rdy_ne ac hp ok.nds c
    have hless := rdy_less hrne
    have hbool : ((dStrs left).isEmpty) = false := by
      cases left with
      | nil => exact absurd rfl c
      | cons a r => rfl
    simp -implicitDefEqProofs [hbool]
    cases n with
    | zero => exact absurd (List.eq_nil_of_length_eq_zero (Nat.le_zero.mp hl)) c
    | succ n =>
      unfold ordF at ho
      rw [if_neg c] at ho
      have hrsub : ∀ s ∈ rdyF J found left, s ∈ left := fun s hs => (List.mem_filter.mp hs).1
      have hrl : (rdyF J found left).length ≤ left.length := List.length_filter_le _ _
      have hsp := step_perm nd hp
      unfold l_order_of_1
      simp -implicitDefEqProofs
      refine lc_map (enc := PyData.str) (p := fun s => (J.nd s).all fun t => decide (t ∈ found)) (f := PyData.str) left _ (fun s hs R S h1 h2 => ?_) ?_
      · simp -implicitDefEqProofs
        rw [kvD_get (hsub s hs)]
        simp -implicitDefEqProofs [jbD]
        refine lc_all (enc := PyData.str) (f := fun t => .bool (decide (t ∈ found))) (J.nd s) _ (fun t ht R hR => ?_) ?_
        · simp -implicitDefEqProofs
          rw [show (dStrs found) = dS found from rfl, in_lS (ok.sn (hsub s hs) ht).1 fun x hx => (ok.nm x (hsubf x hx)).1]
          exact hR
        · rw [all_map]
          cases e : (J.nd s).all fun t => decide (t ∈ found)
          · simp -implicitDefEqProofs
            exact h2 e
          · simp -implicitDefEqProofs
            exact h1 e
      · have er : ((left.filter fun s => (J.nd s).all fun t => decide (t ∈ found)).map PyData.str) = dStrs (rdyF J found left) := rfl
        rw [er]
        generalize hr : rdyF J found left = ready at *
        unfold v_order_of_1
        simp -implicitDefEqProofs
        refine ⟨by unfold dStrs; rw [List.length_map, List.length_map]; omega, ?_⟩
        refine lc_map (enc := PyData.str) (p := fun s => !decide (s ∈ ready)) (f := PyData.str) left _ (fun s hs R S h1 h2 => ?_) ?_
        · simp -implicitDefEqProofs
          rw [show (dStrs ready) = dS ready from rfl, nin_lS (ok.nm s (hsub s hs)).1 fun x hx => (ok.nm x (hsub x (hrsub x hx))).1]
          cases e : decide (s ∈ ready)
          · exact h1 (by rw [e]; rfl)
          · exact h2 (by rw [e]; rfl)
        · have ed : dStrs found ++ dStrs ready = dStrs (found ++ ready) := by unfold dStrs; rw [List.map_append]
          rw [ed]
          exact hR _ n rfl ⟨found ++ ready, left.filter fun s => !decide (s ∈ ready), x3, .v (.list (dStrs ready)), x6, x7, by omega, nd.sublist List.filter_sublist, hsp, ho, rfl⟩
end

end Mi

namespace Mi
open PySem PySem.Spec L2
/-! ### chains: begins, late ones, gains -/
section
variable {J : CJ} {Q : D → Prop} {s t : Str}
def bgV (J : CJ) (b : Str → Int) (s : Str) : Int := maxL (J.rd s :: (J.nd s).map fun t => b t + J.lg t)
def bgS (J : CJ) (b : Str → Int) (s : Str) : Str → Int := updS b s (bgV J b s)
def bgF (J : CJ) : Str → Int := (ordL J).foldl (bgS J) fun _ => 0
theorem bg_keep {x : Str} : ∀ (o : List Str) (b : Str → Int), x ∉ o → o.foldl (bgS J) b x = b x
  | [], b, _ => rfl
  | y :: o, b, h => by
    rw [List.foldl_cons, bg_keep o _ (fun hm => h (List.mem_cons_of_mem _ hm))]
    unfold bgS updS
    rw [if_neg (fun e => h (by rw [e]; simp))]
theorem bgV_congr {b c : Str → Int} (h : ∀ t ∈ J.nd s, b t = c t) : bgV J b s = bgV J c s := by
  unfold bgV
  congr 2
  exact List.map_congr_left fun t ht => by rw [h t ht]
theorem bg_fix (ok : COk J) (to : Topo J (ordL J)) (hs : s ∈ J.ks) : bgF J s = bgV J (bgF J) s := by
  have nd : (ordL J).Nodup := to.perm.nodup_iff.mpr ok.nd
  obtain ⟨a, b, e⟩ := List.append_of_mem (to.perm.symm.subset hs)
  have hp := to.pre a s b e
  unfold bgF
  rw [e] at nd ⊢
  rw [List.foldl_append, List.foldl_cons]
  have nd2 := List.nodup_append.mp nd
  have nsb : s ∉ b := (List.nodup_cons.mp nd2.2.1).1
  have h1 : ∀ x, x ∉ b → b.foldl (bgS J) (bgS J (a.foldl (bgS J) fun _ => 0) s) x = bgS J (a.foldl (bgS J) fun _ => 0) s x := fun x hx => bg_keep b _ hx
  rw [h1 s nsb]
  have h2 : bgS J (a.foldl (bgS J) fun _ => 0) s s = bgV J (a.foldl (bgS J) fun _ => 0) s := by unfold bgS updS; rw [if_pos rfl]
  rw [h2]
  refine bgV_congr fun t ht => ?_
  have hta := hp t ht
  have htb : t ∉ b := fun h => nd2.2.2 t hta t (List.mem_cons_of_mem _ h) rfl
  have hts : t ≠ s := fun h => nd2.2.2 t hta s (by simp) h
  rw [h1 t htb]
  unfold bgS updS
  rw [if_neg hts]
theorem bgV_spec {b : Str → Int} : J.rd s ≤ bgV J b s ∧ (∀ t ∈ J.nd s, b t + J.lg t ≤ bgV J b s) ∧ (bgV J b s = J.rd s ∨ ∃ t ∈ J.nd s, bgV J b s = b t + J.lg t) := by
  unfold bgV
  obtain ⟨h1, h2⟩ := maxL_spec (l := J.rd s :: (J.nd s).map fun t => b t + J.lg t) (by simp)
  refine ⟨h2 _ (by simp), fun t ht => h2 _ (List.mem_cons_of_mem _ (List.mem_map.mpr ⟨t, ht, rfl⟩)), ?_⟩
  rcases List.mem_cons.mp h1 with e | h
  · exact .inl e
  · obtain ⟨t, ht, e⟩ := List.mem_map.mp h
    exact .inr ⟨t, ht, e.symm⟩
theorem bgV_le {b : Str → Int} {m : Int} (h1 : J.rd s ≤ m) (h2 : ∀ t ∈ J.nd s, b t + J.lg t ≤ m) : bgV J b s ≤ m := by
  rcases (bgV_spec (J := J) (s := s) (b := b)).2.2 with e | ⟨t, ht, e⟩
  · omega
  · have := h2 t ht; omega
theorem begins_of_ok (ok : COk J) (ac : Ac J) (q : Q (lkD (kvO (ordL J) (bgF J)))) : m_begins_of [.v (joD J)] Q := by
  have to := ordL_topo ok ac
  have hlen := ok.len
  unfold m_begins_of semD b_begins_of
  simp -implicitDefEqProofs
  refine up_of (by_name_ok ok rfl) ?_
  unfold t_begins_of_2
  simp -implicitDefEqProofs
  unfold t_begins_of_3
  simp -implicitDefEqProofs
  refine up_of (order_of_ok ok ac rfl) ?_
  unfold dStrs
  have hol := to.perm.length_eq
  have nd : (ordL J).Nodup := to.perm.nodup_iff.mpr ok.nd
  refine for_pre (enc := PyData.str) (xs := ordL J) (E := fun pre env => ∃ x3 x4 x5 x6 x7, env = [.v (joD J), .v (lkD (kvD J.ks (jbD J))), .k (kvO pre (pre.foldl (bgS J) fun _ => 0)), x3, x4, x5, x6, x7]) (fun pre p post env R hx he hR => ?_) (fun e he => ?_) ⟨_, _, _, _, _, rfl⟩
  · obtain ⟨x3, x4, x5, x6, x7, rfl⟩ := he
    have hpk : p ∈ J.ks := to.perm.subset (by rw [hx]; simp)
    have hpp : p ∉ pre := fun hm => by
      rw [hx] at nd
      exact (List.nodup_append.mp nd).2.2 p hm p (by simp) rfl
    have hpl : pre.length ≤ 6 := by rw [hx, List.length_append] at hol; omega
    have hR := fun x3 x4 x5 x6 x7 => hR _ ⟨x3, x4, x5, x6, x7, rfl⟩
    rw [List.foldl_append] at hR
    have es : [p].foldl (bgS J) (pre.foldl (bgS J) fun _ => 0) = updS (pre.foldl (bgS J) fun _ => 0) p (bgV J (pre.foldl (bgS J) fun _ => 0) p) := rfl
    rw [es] at hR
    generalize pre.foldl (bgS J) (fun _ => 0) = B at *
    unfold l_begins_of_1
    simp -implicitDefEqProofs
    rw [kvD_get hpk]
    simp -implicitDefEqProofs [jbD]
    refine lc_all (enc := PyData.str) (f := fun t => .int (B t + J.lg t)) (J.nd p) _ (fun t ht R hR => ?_) ?_
    · simp -implicitDefEqProofs
      rw [kv_get (to.pre pre p post hx t ht)]
      simp -implicitDefEqProofs
      rw [kvD_get (ok.nds p hpk t ht)]
      simp -implicitDefEqProofs [jbD]
      exact hR
    · rw [dI_map]
      have hnl := ok.ndl hpk
      have e1 : addD (.list [.int (J.rd p)]) (.list (dInts ((J.nd p).map fun t => B t + J.lg t))) = some (.list (dInts (J.rd p :: (J.nd p).map fun t => B t + J.lg t))) := by
        rw [add_ll (by rw [dInts_len, List.length_map]; simp; omega)]
        rfl
      rw [e1]
      simp -implicitDefEqProofs
      rw [max_dI (by simp)]
      simp -implicitDefEqProofs
      rw [kv_len]
      refine ⟨by omega, ?_⟩
      rw [kv_put]
      have ei : insS pre p = pre ++ [p] := if_neg hpp
      rw [ei]
      exact hR _ _ _ _ _
  · obtain ⟨x3, x4, x5, x6, x7, rfl⟩ := he
    unfold t_begins_of_4
    simp -implicitDefEqProofs
    exact q
theorem ssort_ord (ok : COk J) (to : Topo J (ordL J)) : ssort (ordL J) = J.ks := by
  have := ssort_uniq (ys := J.ks) (ks := ordL J) to.perm.symm (ok.so.imp fun {a b} hab => by
    have := lo_str.as _ _ hab
    unfold ltS at this
    unfold leS
    rw [this]; rfl)
  exact this.symm
theorem earliest_ok (ok : COk J) (ac : Ac J) (q : Q (.tuple (J.ks.map fun s => .tuple [.str s, .int (bgF J s)]))) : m_earliest [.v (joD J)] Q := by
  have to := ordL_topo ok ac
  have hlen := ok.len
  have hol := to.perm.length_eq
  have nd : (ordL J).Nodup := to.perm.nodup_iff.mpr ok.nd
  unfold m_earliest semD b_earliest
  simp -implicitDefEqProofs
  refine up_of (begins_of_ok ok ac rfl) ?_
  simp -implicitDefEqProofs
  rw [srt_kv nd, ssort_ord ok to]
  refine ⟨⟨fun k d hd => ?_, by rw [kv_len]; omega⟩, ?_, q⟩
  · obtain ⟨s, hs, e⟩ := List.mem_map.mp hd
    cases e
    have := (ok.nm s (to.perm.subset hs)).2
    show s.length ≤ 16777216
    omega
  · have e : (kvO (ordL J) (bgF J)).map itD = ((ordL J).map fun s => (s, bgF J s)).map fun p : Str × Int => PyData.tuple [.str p.1, .int p.2] := by
      unfold kvO
      rw [List.map_map, List.map_map]
      rfl
    rw [e]
    refine lokv.srtOk (n := 2) (fun p hp => ?_) (PySem.W.Sortable.tuples fun _ => ⟨_, _, rfl⟩)
    obtain ⟨s, hs, rfl⟩ := List.mem_map.mp hp
    have := (ok.nm s (to.perm.subset hs)).1
    simp [flatD, this]
def lateB (J : CJ) (s : Str) : Bool := match J.du s with
  | none => false
  | some d => decide (d < bgF J s + J.lg s)
theorem late_ok (ok : COk J) (ac : Ac J) (q : Q (.tuple (dStrs (J.ks.filter (lateB J))))) : m_late [.v (joD J)] Q := by
  have to := ordL_topo ok ac
  unfold m_late semD b_late
  simp -implicitDefEqProofs
  refine up_of (begins_of_ok ok ac rfl) ?_
  unfold t_late_2
  simp -implicitDefEqProofs [joD]
  refine lc_map (enc := jbD J) (p := lateB J) (f := PyData.str) J.ks _ (fun s hs R S h1 h2 => ?_) ?_
  · simp -implicitDefEqProofs [jbD]
    unfold lateB at h1 h2
    cases ed : J.du s with
    | none =>
      rw [ed] at h2
      simp -implicitDefEqProofs [dOI]
      exact h2 rfl
    | some d =>
      rw [ed] at h1 h2
      simp -implicitDefEqProofs [dOI]
      rw [kv_get (to.perm.symm.subset hs)]
      simp -implicitDefEqProofs
      by_cases c : d < bgF J s + J.lg s
      · rw [if_pos c]; exact h1 (by simpa using c)
      · rw [if_neg c]; exact h2 (by simpa using c)
  · exact q
theorem end_of_ok (ok : COk J) (ac : Ac J) (hs : s ∈ J.ks) (q : Q (.int (bgF J s + J.lg s))) : m_end_of [.v (joD J), .v (.str s)] Q := by
  have to := ordL_topo ok ac
  unfold m_end_of semD b_end_of
  simp -implicitDefEqProofs
  refine up_of (begins_of_ok ok ac rfl) ?_
  simp -implicitDefEqProofs
  rw [kv_get (to.perm.symm.subset hs)]
  simp -implicitDefEqProofs
  refine up_of (by_name_ok ok rfl) ?_
  simp -implicitDefEqProofs
  rw [kvD_get hs]
  simp -implicitDefEqProofs [jbD]
  exact q
def qkJ (J : CJ) (n : Str) : CJ := { J with lg := fun s => if s = n then 0 else J.lg s }
theorem qk_ok (ok : COk J) (n : Str) : COk (qkJ J n) := ⟨ok.so, ok.ne, ok.len, fun s hs => by
  show 0 ≤ if s = n then 0 else J.lg s
  have := ok.lg0 s hs
  split <;> omega, ok.rd0, ok.nds, ok.ndn, ok.nm⟩
theorem qk_ac (ac : Ac J) (n : Str) : Ac (qkJ J n) := ac
theorem quick_D {n : Str} {env : En} {i : Nat} {el : SE} {P : List D → Prop} (hel : ∀ s ∈ J.ks, ∀ R : D → Prop, R (jbD (qkJ J n) s) → el (env.set i (.v (jbD J s))) R) (q : P (J.ks.map (jbD (qkJ J n)))) : lcGo (gN i) tYes' el env (J.ks.map (jbD J)) P :=
  lc_all (enc := jbD J) (f := jbD (qkJ J n)) J.ks _ (fun s hs R hR => hel s hs R hR) q
theorem gain_ok (ok : COk J) (ac : Ac J) {n o : Str} (ho : o ∈ J.ks) (q : Q (.int (bgF J o + J.lg o - (bgF (qkJ J n) o + (qkJ J n).lg o)))) : m_gain [.v (joD J), .v (.str n), .v (.str o)] Q := by
  unfold m_gain semD b_gain joD
  simp -implicitDefEqProofs
  refine lc_all (enc := jbD J) (f := jbD (qkJ J n)) J.ks _ (fun s hs R hR => ?_) ?_
  · simp -implicitDefEqProofs [jbD]
    by_cases c : s = n
    · rw [if_pos c, cut_from (by omega)]
      have e : (qkJ J n).lg s = 0 := if_pos c
      unfold jbD at hR
      rw [e] at hR
      rw [show (2 : Int).toNat = 2 from rfl]
      simp -implicitDefEqProofs
      rw [add_tt (by simp)]
      simp -implicitDefEqProofs
      exact hR
    · rw [if_neg c, cut_from (by omega)]
      have e : (qkJ J n).lg s = J.lg s := if_neg c
      unfold jbD at hR
      rw [e] at hR
      rw [show (2 : Int).toNat = 2 from rfl]
      simp -implicitDefEqProofs
      rw [add_tt (by simp)]
      simp -implicitDefEqProofs
      exact hR
  · unfold t_gain_2
    simp -implicitDefEqProofs
    have h1 := end_of_ok (s := o) (Q := fun d => d = .int (bgF J o + J.lg o)) ok ac ho rfl
    have h2 := end_of_ok (s := o) (Q := fun d => d = .int (bgF (qkJ J n) o + (qkJ J n).lg o)) (qk_ok ok n) (qk_ac ac n) ho rfl
    unfold joD at h1 h2
    refine up_of h1 ?_
    refine up_of h2 ?_
    simp -implicitDefEqProofs
    exact q
end

end Mi

namespace Mi
open PySem PySem.Spec L2
/-! ### chains: latest begins; ends that are brought forward -/
def mtO : Option Int → Option Int → Option Int
  | none, x => x
  | some a, none => some a
  | some a, some b => some (min a b)
def leO : Option Int → Option Int → Prop
  | _, none => True
  | none, some _ => False
  | some a, some b => a ≤ b
def shO (e : Option Int) (k : Int) : Option Int := e.map fun v => v - k
theorem leO_rfl (a : Option Int) : leO a a := by cases a <;> simp [leO]
theorem leO_tr {a b c : Option Int} (h1 : leO a b) (h2 : leO b c) : leO a c := by
  cases a <;> cases b <;> cases c <;> simp [leO] at * <;> omega
theorem leO_anti {a b : Option Int} (h1 : leO a b) (h2 : leO b a) : a = b := by
  cases a <;> cases b <;> simp [leO] at * <;> omega
theorem mt_l (a b : Option Int) : leO (mtO a b) a := by
  cases a <;> cases b <;> simp [leO, mtO] <;> omega
theorem mt_r (a b : Option Int) : leO (mtO a b) b := by
  cases a <;> cases b <;> simp [leO, mtO] <;> omega
theorem mt_g {a b c : Option Int} (h1 : leO c a) (h2 : leO c b) : leO c (mtO a b) := by
  cases a <;> cases b <;> cases c <;> simp [leO, mtO] at * <;> omega
theorem mt_or (a b : Option Int) : mtO a b = a ∨ mtO a b = b := by
  cases a <;> cases b <;> simp [mtO] <;> omega
theorem sh_le {a b : Option Int} {k : Int} (h : leO a b) : leO (shO a k) (shO b k) := by
  cases a <;> cases b <;> simp [leO, shO] at * <;> omega
abbrev EO := Str → Option Int
def rlx (lg : Str → Int) (e : EO) (p : Str × Str) : EO := fun t => if t = p.2 then mtO (e p.2) (shO (e p.1) (lg p.1)) else e t
section
variable {lg : Str → Int} {e F : EO} {s b : Str} {p : Str × Str}
theorem rlx_le : leO (rlx lg e p s) (e s) := by
  unfold rlx
  by_cases c : s = p.2
  · rw [if_pos c, c]; exact mt_l _ _
  · rw [if_neg c]; exact leO_rfl _
theorem fold_le : ∀ (L : List (Str × Str)) (e : EO), leO (L.foldl (rlx lg) e s) (e s)
  | [], e => leO_rfl _
  | p :: L, e => leO_tr (fold_le L _) rlx_le
/-- a lower solution stays below -/
theorem fold_sound : ∀ (L : List (Str × Str)) (e : EO), (∀ s, leO (F s) (e s)) → (∀ p ∈ L, leO (F p.2) (shO (F p.1) (lg p.1))) → ∀ s, leO (F s) (L.foldl (rlx lg) e s)
  | [], e, h, _ => h
  | p :: L, e, h, hp => fold_sound L _ (fun s => by
      unfold rlx
      by_cases c : s = p.2
      · rw [if_pos c]
        exact mt_g (by rw [c]; exact h _) (by rw [c]; exact leO_tr (hp p (by simp)) (sh_le (h _)))
      · rw [if_neg c]; exact h s) fun q hq => hp q (List.mem_cons_of_mem _ hq)
theorem fold_at (L1 L2 : List (Str × Str)) (e : EO) : leO ((L1 ++ (b, s) :: L2).foldl (rlx lg) e s) (shO (L1.foldl (rlx lg) e b) (lg b)) := by
  rw [List.foldl_append, List.foldl_cons]
  refine leO_tr (fold_le L2 _) ?_
  unfold rlx
  rw [if_pos rfl]
  exact mt_r _ _
theorem fold_keep : ∀ (L : List (Str × Str)) (e : EO), (∀ p ∈ L, p.2 ≠ s) → L.foldl (rlx lg) e s = e s
  | [], e, _ => rfl
  | p :: L, e, h => by
    rw [List.foldl_cons, fold_keep L _ fun q hq => h q (List.mem_cons_of_mem _ hq)]
    unfold rlx
    rw [if_neg (fun c => h p (by simp) c.symm)]
theorem fold_att : ∀ (L : List (Str × Str)) (e : EO), L.foldl (rlx lg) e s = e s ∨ ∃ L1 b L2, L = L1 ++ (b, s) :: L2 ∧ L.foldl (rlx lg) e s = shO (L1.foldl (rlx lg) e b) (lg b)
  | [], e => .inl rfl
  | p :: L, e => by
    rcases fold_att L (rlx lg e p) with h | ⟨L1, b, L2, h1, h2⟩
    · rw [List.foldl_cons, h]
      unfold rlx
      by_cases c : s = p.2
      · rw [if_pos c]
        rcases mt_or (e p.2) (shO (e p.1) (lg p.1)) with h' | h'
        · exact .inl (by rw [h', c])
        · refine .inr ⟨[], p.1, L, by rw [c]; rfl, ?_⟩
          rw [h']; rfl
      · rw [if_neg c]; exact .inl rfl
    · exact .inr ⟨p :: L1, b, L2, by rw [h1]; rfl, by rw [List.foldl_cons, h2]; rfl⟩
end
def prs (J : CJ) (o : List Str) : List (Str × Str) := o.flatMap fun b => (J.nd b).map fun s => (b, s)
theorem prs_mem {J : CJ} {o : List Str} {b s : Str} : (b, s) ∈ prs J o ↔ b ∈ o ∧ s ∈ J.nd b := by
  unfold prs
  rw [List.mem_flatMap]
  constructor
  · rintro ⟨c, h1, h2⟩
    obtain ⟨t, h3, h4⟩ := List.mem_map.mp h2
    cases h4
    exact ⟨h1, h3⟩
  · rintro ⟨h1, h2⟩
    exact ⟨b, h1, List.mem_map.mpr ⟨s, h2, rfl⟩⟩
theorem prs_app {J : CJ} (a b : List Str) : prs J (a ++ b) = prs J a ++ prs J b := by unfold prs; rw [List.flatMap_append]
def enF (J : CJ) : EO := (prs J (ordL J).reverse).foldl (rlx J.lg) J.du
section
variable {J : CJ} {Q : D → Prop} {s t b : Str}
/-- with b's pairs behind it, b's end stands -/
theorem en_split (ok : COk J) (to : Topo J (ordL J)) {L1 L2 : List (Str × Str)} (e : prs J (ordL J).reverse = L1 ++ (b, s) :: L2) : enF J b = L1.foldl (rlx J.lg) J.du b := by
  have nd : (ordL J).Nodup := to.perm.nodup_iff.mpr ok.nd
  unfold enF
  rw [e, List.foldl_append]
  refine fold_keep _ _ fun p hp hpb => ?_
  -- p = (c, b) stands at or behind (b, s)
  obtain ⟨c, b'⟩ := p
  have hpb : b' = b := hpb
  subst hpb
  have hpw : (prs J (ordL J).reverse).Pairwise fun p q => q.2 ≠ p.1 := by
    have key : ∀ o : List Str, (∀ a s c, o = a ++ s :: c → ∀ t ∈ J.nd s, t ∉ a ∧ t ≠ s) → (prs J o).Pairwise fun p q => q.2 ≠ p.1 := by
      intro o
      induction o with
      | nil => intro _; exact List.Pairwise.nil
      | cons x o ih =>
        intro H
        have ih := ih fun a s c e t ht => by
          have := H (x :: a) s c (by rw [e]; rfl) t ht
          exact ⟨fun hm => this.1 (List.mem_cons_of_mem _ hm), this.2⟩
        have e1 : prs J (x :: o) = (J.nd x).map (fun s => (x, s)) ++ prs J o := by unfold prs; rw [List.flatMap_cons]
        rw [e1, List.pairwise_append]
        have hself := H [] x o rfl
        refine ⟨?_, ih, fun p hp q hq => ?_⟩
        · rw [List.pairwise_map]
          have hall : ∀ t ∈ J.nd x, t ≠ x := fun t ht => (hself t ht).2
          exact List.Pairwise.imp_of_mem (R := fun _ _ => True) (fun {a b} _ hb _ => hall b hb) (List.pairwise_of_forall fun _ _ => trivial)
        · obtain ⟨t, _, rfl⟩ := List.mem_map.mp hp
          obtain ⟨c, d⟩ := q
          obtain ⟨h1, h2⟩ := prs_mem.mp hq
          obtain ⟨a, c', e⟩ := List.append_of_mem h1
          have := (H (x :: a) c c' (by rw [e]; rfl) d h2).1
          intro hdx
          exact this (by show d ∈ x :: a; rw [show d = x from hdx]; simp)
    refine key _ fun a s c e t ht => ?_
    have e2 : ordL J = c.reverse ++ s :: a.reverse := by
      have := congrArg List.reverse e
      rw [List.reverse_reverse] at this
      rw [this]; simp
    have hm := to.pre _ _ _ e2 t ht
    rw [e2] at nd
    have nd2 := List.nodup_append.mp nd
    refine ⟨fun ha => ?_, fun hs => ?_⟩
    · exact nd2.2.2 t hm t (List.mem_cons_of_mem _ (List.mem_reverse.mpr ha)) rfl
    · exact nd2.2.2 t hm s (by simp) hs
  rw [e, List.pairwise_append, List.pairwise_cons] at hpw
  rcases List.mem_cons.mp hp with h | h
  · have := (Prod.mk.inj h)
    -- (c, b) = (b, s): b needs itself
    have hms : (b', s) ∈ prs J (ordL J).reverse := by rw [e]; simp
    obtain ⟨h1, h2⟩ := prs_mem.mp hms
    obtain ⟨x, y, e3⟩ := List.append_of_mem (List.mem_reverse.mp h1)
    have := to.pre x b' y e3 s h2
    rw [e3] at nd
    rw [← (Prod.mk.inj h).2] at this
    exact (List.nodup_append.mp nd).2.2 b' this b' (by simp) rfl
  · exact hpw.2.1.1 _ h rfl
structure EnSp (J : CJ) (F : EO) : Prop where
  du : ∀ s, leO (F s) (J.du s)
  le : ∀ b ∈ J.ks, ∀ s ∈ J.nd b, leO (F s) (shO (F b) (J.lg b))
  att : ∀ s, F s = J.du s ∨ ∃ b ∈ J.ks, s ∈ J.nd b ∧ F s = shO (F b) (J.lg b)
theorem en_sp (ok : COk J) (to : Topo J (ordL J)) : EnSp J (enF J) where
  du := fun s => fold_le _ _
  le := fun b hb s hs => by
    have hm : (b, s) ∈ prs J (ordL J).reverse := prs_mem.mpr ⟨List.mem_reverse.mpr (to.perm.symm.subset hb), hs⟩
    obtain ⟨L1, L2, e⟩ := List.append_of_mem hm
    rw [en_split ok to e]
    unfold enF
    rw [e]
    exact fold_at L1 L2 _
  att := fun s => by
    rcases fold_att (lg := J.lg) (s := s) (prs J (ordL J).reverse) J.du with h | ⟨L1, b, L2, e, h⟩
    · exact .inl h
    · have hm : (b, s) ∈ prs J (ordL J).reverse := by rw [e]; simp
      obtain ⟨h1, h2⟩ := prs_mem.mp hm
      refine .inr ⟨b, to.perm.subset (List.mem_reverse.mp h1), h2, ?_⟩
      rw [en_split ok to e]
      exact h
/-- as many passes as jobs bring the same ends -/
def pasF (J : CJ) : Nat → EO
  | 0 => J.du
  | n + 1 => (prs J J.ks).foldl (rlx J.lg) (pasF J n)
theorem pas_ge (sp : EnSp J F) : ∀ (n : Nat) (s : Str), leO (F s) (pasF J n s)
  | 0, s => sp.du s
  | n + 1, s => fold_sound _ _ (pas_ge sp n) (fun p hp => by
    obtain ⟨b, t⟩ := p
    obtain ⟨h1, h2⟩ := prs_mem.mp hp
    exact sp.le b h1 t h2) s
theorem pas_du : ∀ (n : Nat) (s : Str), leO (pasF J n s) (J.du s)
  | 0, s => leO_rfl _
  | n + 1, s => leO_tr (fold_le _ _) (pas_du n s)
theorem pas_le (ok : COk J) (to : Topo J (ordL J)) (sp : EnSp J F) : ∀ (n : Nat) (a c : List Str), ordL J = a ++ c → c.length ≤ n → ∀ s ∈ c, leO (pasF J n s) (F s)
  | 0, a, c, _, hl, s, hs => by
    rw [List.eq_nil_of_length_eq_zero (Nat.le_zero.mp hl)] at hs
    cases hs
  | n + 1, a, c, e, hl, s, hs => by
    have nd : (ordL J).Nodup := to.perm.nodup_iff.mpr ok.nd
    rcases sp.att s with h | ⟨b, hb, hsb, h⟩
    · rw [h]; exact pas_du _ _
    · rw [h]
      -- b stands behind s in the order
      obtain ⟨x, y, exy⟩ := List.append_of_mem (to.perm.symm.subset hb)
      have hsx := to.pre x b y exy s hsb
      obtain ⟨c1, c2, ec⟩ := List.append_of_mem hs
      have hsnd := nd
      rw [e, ec] at nd
      have hbc : b ∈ c2 := by
        have hbo : b ∈ a ++ (c1 ++ s :: c2) := by rw [← ec, ← e]; exact to.perm.symm.subset hb
        refine Decidable.byContradiction fun hn => ?_
        -- then b stands at or ahead of s
        have hb' : b ∈ a ++ c1 ∨ b = s := by
          rw [← List.append_assoc] at hbo
          rcases List.mem_append.mp hbo with h | h
          · exact .inl h
          · rcases List.mem_cons.mp h with h | h
            · exact .inr h
            · exact absurd h hn
        rcases hb' with hb' | hb'
        · obtain ⟨u, v, euv⟩ := List.append_of_mem hb'
          have e5 : ordL J = u ++ b :: (v ++ s :: c2) := by rw [e, ec, ← List.append_assoc, euv]; simp
          have := to.pre u b _ e5 s hsb
          rw [e5] at hsnd
          exact (List.nodup_append.mp hsnd).2.2 s this s (by simp) rfl
        · subst hb'
          have e5 : ordL J = (a ++ c1) ++ b :: c2 := by rw [e, ec]; simp
          have := to.pre _ b _ e5 b hsb
          rw [e5] at hsnd
          exact (List.nodup_append.mp hsnd).2.2 b this b (by simp) rfl
      have ih := pas_le ok to sp n (a ++ c1 ++ [s]) c2 (by rw [e, ec]; simp) (by rw [ec] at hl; simp at hl; omega) b hbc
      obtain ⟨L1, L2, eL⟩ := List.append_of_mem (prs_mem.mpr ⟨hb, hsb⟩ : (b, s) ∈ prs J J.ks)
      show leO ((prs J J.ks).foldl (rlx J.lg) (pasF J n) s) _
      rw [eL]
      refine leO_tr (fold_at L1 L2 _) (sh_le (leO_tr (fold_le L1 _) ih))
theorem pas_eq (ok : COk J) (to : Topo J (ordL J)) (hs : s ∈ J.ks) : pasF J J.ks.length s = enF J s :=
  leO_anti (pas_le ok to (en_sp ok to) _ [] (ordL J) rfl (by rw [to.perm.length_eq]; exact Nat.le_refl _) s (to.perm.symm.subset hs)) (pas_ge (en_sp ok to) _ s)
end

end Mi

namespace Mi
open PySem PySem.Spec L2
/-! ### chains: latest, the code -/
theorem kvD_put_old {ks : List Str} {v : Str → D} {s : Str} (h : s ∈ ks) (x : D) : putG (kvD ks v) (.inr s) x = kvD ks fun t => if t = s then x else v t := by
  unfold putG
  have : ((kvD ks v).any fun p => decide (p.1 = .inr s)) = true := by
    rw [List.any_eq_true]
    exact ⟨(.inr s, v s), List.mem_map.mpr ⟨s, h, rfl⟩, by simp⟩
  rw [if_pos this]
  unfold kvD
  rw [List.map_map]
  refine List.map_congr_left fun t _ => ?_
  by_cases c : t = s
  · subst c; simp
  · simp [c]
def kvE (ks : List Str) (e : EO) : List (Key × D) := kvD ks fun s => dOI (e s)
theorem kvE_get {ks : List Str} {e : EO} {s : Str} (h : s ∈ ks) : getG (kvE ks e) (.inr s) = some (dOI (e s)) := kvD_get h
theorem kvE_put {ks : List Str} {e : EO} {s : Str} (h : s ∈ ks) (x : Option Int) : putG (kvE ks e) (.inr s) (dOI x) = kvE ks fun t => if t = s then x else e t := by
  unfold kvE
  rw [kvD_put_old h]
  unfold kvD
  refine List.map_congr_left fun t _ => ?_
  by_cases c : t = s <;> simp [c]
theorem kvE_len {ks : List Str} {e : EO} : (kvE ks e).length = ks.length := List.length_map _
theorem kvE_congr {ks : List Str} {e e' : EO} (h : ∀ s ∈ ks, e s = e' s) : kvE ks e = kvE ks e' := List.map_congr_left fun s hs => by simp [h s hs]
theorem topo_self {J : CJ} (ok : COk J) (to : Topo J (ordL J)) {b : Str} (hb : b ∈ J.ks) : b ∉ J.nd b := fun h => by
  have nd : (ordL J).Nodup := to.perm.nodup_iff.mpr ok.nd
  obtain ⟨x, y, e⟩ := List.append_of_mem (to.perm.symm.subset hb)
  have := to.pre x b y e b h
  rw [e] at nd
  exact (List.nodup_append.mp nd).2.2 b this b (by simp) rfl
section
variable {J : CJ} {Q : D → Prop} {s t b : Str}
theorem latest_ok (ok : COk J) (ac : Ac J) (q : Q (.tuple (J.ks.map fun s => .tuple [.str s, dOI (shO (enF J s) (J.lg s))]))) : m_latest [.v (joD J)] Q := by
  have to := ordL_topo ok ac
  have hlen := ok.len
  unfold m_latest semD b_latest
  simp -implicitDefEqProofs
  refine up_of (by_name_ok ok rfl) ?_
  unfold t_latest_2
  simp -implicitDefEqProofs
  unfold t_latest_3
  simp -implicitDefEqProofs
  rw [kvD_len]
  refine ⟨⟨by omega, fun k d hd => ?_⟩, ?_⟩
  · obtain ⟨s, hs, e⟩ := List.mem_map.mp hd
    cases e
    have := (ok.nm s hs).2
    show s.length ≤ 16777216
    omega
  have ek : (kvD J.ks (jbD J)).map (fun p => kD p.1) = J.ks.map PyData.str := by unfold kvD; rw [List.map_map]; rfl
  rw [ek]
  refine for_pre (enc := PyData.str) (xs := J.ks) (E := fun pre env => ∃ x3 x4 x5, env = [.v (joD J), .v (lkD (kvD J.ks (jbD J))), .k (kvE pre J.du), x3, x4, x5]) (fun pre p post env R hx he hR => ?_) (fun e he => ?_) ⟨_, _, _, rfl⟩
  · obtain ⟨x3, x4, x5, rfl⟩ := he
    have hp : p ∉ pre := fun hm => by
      have nd := ok.nd
      rw [hx] at nd
      exact (List.nodup_append.mp nd).2.2 p hm p (by simp) rfl
    have hpl : pre.length ≤ 6 := by rw [hx, List.length_append] at hlen; omega
    have hpk : p ∈ J.ks := by rw [hx]; simp
    unfold l_latest_1
    simp -implicitDefEqProofs
    rw [kvD_get hpk]
    have e4 : atI [PyData.str p, PyData.int (J.lg p), PyData.tuple (dStrs (J.nd p)), PyData.int (J.rd p), dOI (J.du p)] 4 = some (dOI (J.du p)) := at_some (j := 4) rfl rfl
    simp -implicitDefEqProofs [jbD]
    rw [e4]
    simp -implicitDefEqProofs
    rw [kvE_len]
    refine ⟨by omega, ?_⟩
    unfold kvE
    rw [kvD_put_new hp]
    have e : (kvD pre fun s => dOI (J.du s)) ++ [(.inr p, dOI (J.du p))] = kvE (pre ++ [p]) J.du := by unfold kvE kvD; rw [List.map_append]; rfl
    rw [e]
    exact hR _ ⟨_, _, _, rfl⟩
  · obtain ⟨x3, x4, x5, rfl⟩ := he
    unfold t_latest_4
    simp -implicitDefEqProofs
    refine up_of (order_of_ok ok ac rfl) ?_
    simp -implicitDefEqProofs
    have er : (dStrs (ordL J)).reverse = (ordL J).reverse.map PyData.str := by unfold dStrs; rw [List.map_reverse]
    rw [er]
    refine for_pre (enc := PyData.str) (xs := (ordL J).reverse) (E := fun pre env => ∃ x3 x4 x5, env = [.v (joD J), .v (lkD (kvD J.ks (jbD J))), .k (kvE J.ks ((prs J pre).foldl (rlx J.lg) J.du)), x3, x4, x5]) (fun pre p post env R hx he hR => ?_) (fun e he => ?_) ⟨_, _, _, rfl⟩
    · obtain ⟨x3, x4, x5, rfl⟩ := he
      have hpk : p ∈ J.ks := to.perm.subset (List.mem_reverse.mp (by rw [hx]; simp))
      have hR := fun x3 x4 x5 => hR _ ⟨x3, x4, x5, rfl⟩
      rw [prs_app, List.foldl_append] at hR
      have ep : prs J [p] = (J.nd p).map fun s => (p, s) := by simp [prs]
      rw [ep] at hR
      generalize (prs J pre).foldl (rlx J.lg) J.du = e at *
      unfold l_latest_3
      simp -implicitDefEqProofs
      rw [kvE_get hpk]
      cases hv : e p with
      | none =>
        simp -implicitDefEqProofs [dOI]
        have : ∀ L : List Str, p ∉ L → (∀ s ∈ L, s ∈ J.ks) → ∀ s, (L.map fun s => (p, s)).foldl (rlx J.lg) e s = e s := by
          intro L
          induction L with
          | nil => intro _ _ s; rfl
          | cons x L ih =>
            intro hpl hL s
            have he : rlx J.lg e (p, x) = e := by
              funext t
              unfold rlx
              by_cases c : t = x
              · rw [if_pos c]; show mtO (e x) (shO (e p) (J.lg p)) = e t
                rw [hv, c]
                cases e x <;> rfl
              · rw [if_neg c]
            rw [List.map_cons, List.foldl_cons, he]
            exact ih (fun h => hpl (List.mem_cons_of_mem _ h)) (fun s hs => hL s (List.mem_cons_of_mem _ hs)) s
        rw [kvE_congr (e' := e) fun s _ => this (J.nd p) (topo_self ok to hpk) (ok.nds p hpk) s] at hR
        exact hR _ _ _
      | some v =>
        simp -implicitDefEqProofs [dOI]
        rw [kvD_get hpk]
        simp -implicitDefEqProofs [jbD]
        unfold dStrs
        refine for_pre (enc := PyData.str) (xs := J.nd p) (E := fun tp env => ∃ x5, env = [.v (joD J), .v (lkD (kvD J.ks (jbD J))), .k (kvE J.ks ((tp.map fun s => (p, s)).foldl (rlx J.lg) e)), .v (.str p), .v (.int (v - J.lg p)), x5]) (fun tp t post2 env R hx2 he hR2 => ?_) (fun e he => ?_) ⟨_, rfl⟩
        · obtain ⟨x5, rfl⟩ := he
          have htn : t ∈ J.nd p := by rw [hx2]; simp
          have htk := ok.nds p hpk t htn
          have hR2 := fun x5 => hR2 _ ⟨x5, rfl⟩
          rw [List.map_append, List.foldl_append] at hR2
          have hep : (tp.map fun s => (p, s)).foldl (rlx J.lg) e p = some v := by
            rw [fold_keep _ _ fun q hq hqp => ?_, hv]
            obtain ⟨s, hs, rfl⟩ := List.mem_map.mp hq
            have hqp : s = p := hqp
            exact topo_self ok to hpk (by rw [hx2, ← hqp]; exact List.mem_append_left _ hs)
          generalize (tp.map fun s => (p, s)).foldl (rlx J.lg) e = e2 at *
          have hst : [t].map (fun s => (p, s)) = [(p, t)] := rfl
          rw [hst] at hR2
          have hrl : [(p, t)].foldl (rlx J.lg) e2 = fun x => if x = t then mtO (e2 t) (some (v - J.lg p)) else e2 x := by
            show rlx J.lg e2 (p, t) = _
            unfold rlx
            funext x
            show (if x = t then mtO (e2 t) (shO (e2 p) (J.lg p)) else e2 x) = _
            rw [hep]; rfl
          rw [hrl] at hR2
          unfold l_latest_2
          simp -implicitDefEqProofs
          rw [kvE_get htk]
          cases ht : e2 t with
          | none =>
            rw [ht] at hR2
            simp -implicitDefEqProofs [dOI]
            rw [kvE_len]
            refine ⟨by omega, ?_⟩
            have := kvE_put (e := e2) htk (some (v - J.lg p))
            rw [show dOI (some (v - J.lg p)) = .int (v - J.lg p) from rfl] at this
            rw [this]
            exact hR2 _
          | some y =>
            rw [ht] at hR2
            simp -implicitDefEqProofs [dOI]
            rw [kvE_len]
            refine ⟨by omega, ?_⟩
            have := kvE_put (e := e2) htk (some (min y (v - J.lg p)))
            rw [show dOI (some (min y (v - J.lg p))) = .int (min y (v - J.lg p)) from rfl] at this
            rw [this]
            exact hR2 _
        · obtain ⟨x5, rfl⟩ := he
          exact hR _ _ _
    · obtain ⟨x3, x4, x5, rfl⟩ := he
      have een : (prs J (ordL J).reverse).foldl (rlx J.lg) J.du = enF J := rfl
      rw [een]
      unfold t_latest_5
      simp -implicitDefEqProofs
      rw [kvD_len]
      refine ⟨by omega, srtKeys_s (ks := J.ks) (by
        have := keysS_map (fun s : Str => s) (jbD J) J.ks
        simpa [kvD] using this) (fun k hk => by have := (ok.nm k hk).2; omega) ?_⟩
      rw [ssort_id ok.so]
      refine lc_all (enc := PyData.str) (f := fun s => .tuple [.str s, dOI (shO (enF J s) (J.lg s))]) J.ks _ (fun s hs R hR => ?_) q
      simp -implicitDefEqProofs
      rw [kvE_get hs]
      cases hv : enF J s with
      | none =>
        rw [hv] at hR
        simp -implicitDefEqProofs [dOI]
        exact hR
      | some v =>
        rw [hv] at hR
        simp -implicitDefEqProofs [dOI]
        rw [kvD_get hs]
        simp -implicitDefEqProofs [jbD]
        exact hR
end

end Mi

namespace Mi
open PySem PySem.Spec L2
/-! ### chains: what holds a job -/
def mnT (xs : List Str) : Str := (srtL ltS xs).headD ""
theorem mnT_spec {xs : List Str} (h : xs ≠ []) : mnT xs ∈ xs ∧ ∀ t ∈ xs, ltS t (mnT xs) = false := by
  have so := lo_str.so xs
  unfold mnT
  cases e : srtL ltS xs with
  | nil =>
    have := srtL_len (lt := ltS) xs
    rw [e] at this
    exact absurd (List.eq_nil_of_length_eq_zero this.symm) h
  | cons a r =>
    rw [e, List.pairwise_cons] at so
    refine ⟨srtL_mem.mp (by rw [e]; simp), fun t ht => ?_⟩
    rcases List.mem_cons.mp (by rw [← e]; exact srtL_mem.mpr ht : t ∈ a :: r) with h | h
    · rw [h]; exact ltS_irr _
    · exact so.1 t h
theorem mnT_best {xs : List Str} (h : xs ≠ []) (hn : ∀ s ∈ xs, NmO s) : BestOk (dStrs xs) ∧ bestD false (dStrs xs) = .str (mnT xs) :=
  ⟨lo_str.bestOk (n := 1) h (fun x hx => flat_nm (hn x hx)) (fun _ _ e => by cases e), lo_str.best (mnT_spec h).1 (mnT_spec h).2⟩
def hldL (J : CJ) (s : Str) : List Str := (J.nd s).filter fun t => decide (bgF J t + J.lg t = bgF J s)
def chF (J : CJ) : Nat → Str → List Str → List Str
  | 0, h, r => h :: r
  | n + 1, h, r => if hldL J h = [] then h :: r else chF J n (mnT (hldL J h)) (h :: r)
def chL (J : CJ) (s : Str) : List Str := chF J J.ks.length s []
section
variable {J : CJ} {Q : D → Prop} {s t b : Str}
theorem hld_in (hm : t ∈ hldL J s) : t ∈ J.nd s := (List.mem_filter.mp hm).1
/-- behind at most n in the order -/
def Bh (J : CJ) (n : Nat) (s : Str) : Prop := ∃ a c, ordL J = a ++ s :: c ∧ a.length ≤ n
theorem bh_next (to : Topo J (ordL J)) {n : Nat} (h : Bh J n s) (ht : t ∈ J.nd s) : ∃ m, n = m + 1 ∧ Bh J m t := by
  obtain ⟨a, c, e, hl⟩ := h
  obtain ⟨x, y, exy⟩ := List.append_of_mem (to.pre a s c e t ht)
  rw [exy, List.length_append, List.length_cons] at hl
  exact ⟨n - 1, by omega, x, y ++ s :: c, by rw [e, exy]; simp, by omega⟩
theorem bh_all (to : Topo J (ordL J)) (hs : s ∈ J.ks) : Bh J J.ks.length s := by
  obtain ⟨a, c, e⟩ := List.append_of_mem (to.perm.symm.subset hs)
  refine ⟨a, c, e, ?_⟩
  have := to.perm.length_eq
  rw [e, List.length_append] at this
  omega
theorem ch_stop {n : Nat} {r : List Str} (h : hldL J s = []) : chF J n s r = s :: r := by
  cases n with
  | zero => rfl
  | succ n => unfold chF; rw [if_pos h]
theorem chF_len : ∀ (n : Nat) (s : Str) (r : List Str), (chF J n s r).length ≤ n + r.length + 1
  | 0, s, r => by simp [chF]
  | n + 1, s, r => by
    unfold chF
    split
    · simp
    · have := chF_len n (mnT (hldL J s)) (s :: r)
      rw [List.length_cons] at this
      omega
theorem holding_ok (ok : COk J) (ac : Ac J) (hs : s ∈ J.ks) (q : Q (.tuple (dStrs (chL J s)))) : m_holding_chain [.v (joD J), .v (.str s)] Q := by
  have to := ordL_topo ok ac
  have hlen := ok.len
  unfold m_holding_chain semD b_holding_chain
  simp -implicitDefEqProofs
  refine up_of (by_name_ok ok rfl) ?_
  unfold t_holding_chain_2
  simp -implicitDefEqProofs
  refine up_of (begins_of_ok ok ac rfl) ?_
  unfold t_holding_chain_3
  simp -implicitDefEqProofs
  unfold t_holding_chain_4
  refine ⟨J.ks.length + 1, wh_ind (I := fun n env => ∃ h r x5 x6 x7, h ∈ J.ks ∧ Bh J n h ∧ r.length + n ≤ 6 ∧ chF J n h r = chL J s ∧ env = [.v (joD J), .v (.str s), .v (lkD (kvD J.ks (jbD J))), .v (lkD (kvO (ordL J) (bgF J))), .v (.tuple (dStrs (h :: r))), x5, x6, x7]) (fun n env hI R hR => ?_) J.ks.length _ ⟨s, [], .un, .un, .un, hs, bh_all to hs, by simp; omega, rfl, rfl⟩⟩
  obtain ⟨h, r, x5, x6, x7, hh, hb, hl, hc, rfl⟩ := hI
  have hsub : ∀ t ∈ hldL J h, t ∈ J.ks := fun t ht => ok.nds h hh t (hld_in ht)
  unfold l_holding_chain_1
  simp -implicitDefEqProofs [dStrs]
  unfold v_holding_chain_2
  simp -implicitDefEqProofs
  rw [kvD_get hh]
  simp -implicitDefEqProofs [jbD]
  refine lc_map (enc := PyData.str) (p := fun t => decide (bgF J t + J.lg t = bgF J h)) (f := PyData.str) (J.nd h) _ (fun t ht R S h1 h2 => ?_) ?_
  · have htk := ok.nds h hh t ht
    simp -implicitDefEqProofs
    rw [kv_get (to.perm.symm.subset htk)]
    simp -implicitDefEqProofs
    rw [kvD_get htk]
    simp -implicitDefEqProofs [jbD]
    rw [kv_get (to.perm.symm.subset hh)]
    simp -implicitDefEqProofs
    by_cases c : bgF J t + J.lg t = bgF J h
    · rw [if_pos c]; exact h1 (by simpa using c)
    · rw [if_neg c]; exact h2 (by simpa using c)
  · have eh : ((J.nd h).filter fun t => decide (bgF J t + J.lg t = bgF J h)).map PyData.str = dStrs (hldL J h) := rfl
    rw [eh]
    unfold v_holding_chain_1
    by_cases c : hldL J h = []
    · rw [c]
      rw [ch_stop c] at hc
      simp -implicitDefEqProofs [dStrs]
      rw [← hc] at q
      exact q
    · have hbool : ((dStrs (hldL J h)).isEmpty) = false := by
        cases e : hldL J h with
        | nil => exact absurd e c
        | cons a r => rfl
      obtain ⟨m1, m2⟩ := mnT_best c fun s hs => ok.nm s (hsub s hs)
      obtain ⟨n', rfl, hb'⟩ := bh_next to hb (hld_in (mnT_spec c).1)
      unfold chF at hc
      rw [if_neg c] at hc
      simp -implicitDefEqProofs [hbool]
      refine ⟨m1, ?_⟩
      rw [m2, add_tt (by simp; omega)]
      simp -implicitDefEqProofs
      exact hR _ n' rfl ⟨mnT (hldL J h), h :: r, .v (.str h), .v (.list (dStrs (hldL J h))), x7, hsub _ (mnT_spec c).1, hb', by rw [List.length_cons]; omega, hc, rfl⟩
end

end Mi

namespace Mi
open PySem PySem.Spec L2
/-! ### chains: rings -/
def hdS (r : List Str) : Str := r.headD ""
def laS (r : List Str) : Str := r.getLastD ""
theorem at_hd {r : List Str} (h : r ≠ []) : atI (dStrs r) 0 = some (.str (hdS r)) := by
  cases r with
  | nil => exact absurd rfl h
  | cons a r => exact at0
theorem at_la {r : List Str} (h : r ≠ []) : atI (dStrs r) (-1) = some (.str (laS r)) := by
  have e := List.dropLast_concat_getLast h
  have e2 : laS r = r.getLast h := by unfold laS; rw [List.getLastD_eq_getLast?, List.getLast?_eq_some_getLast h]; rfl
  rw [e2]
  conv => lhs; rw [← e]
  unfold dStrs
  rw [List.map_append]
  exact at_end
theorem laS_app (r : List Str) (s : Str) : laS (r ++ [s]) = s := by unfold laS; simp
def mnR (xs : List (List Str)) : List Str := (srtL (lexG ltS) xs).headD []
theorem lexS_irr (r : List Str) : lexG ltS r r = false := (lo_row lo_str).irr r
theorem mnR_spec {xs : List (List Str)} (h : xs ≠ []) : mnR xs ∈ xs ∧ ∀ t ∈ xs, lexG ltS t (mnR xs) = false := by
  have so := (lo_row lo_str).so xs
  unfold mnR
  cases e : srtL (lexG ltS) xs with
  | nil =>
    have := srtL_len (lt := lexG ltS) xs
    rw [e] at this
    exact absurd (List.eq_nil_of_length_eq_zero this.symm) h
  | cons a r =>
    rw [e, List.pairwise_cons] at so
    refine ⟨srtL_mem.mp (by rw [e]; simp), fun t ht => ?_⟩
    rcases List.mem_cons.mp (by rw [← e]; exact srtL_mem.mpr ht : t ∈ a :: r) with h | h
    · rw [h]; exact lexS_irr _
    · exact so.1 t h
def tDS (r : List Str) : D := .tuple (dStrs r)
def cloB (J : CJ) (r : List Str) : Bool := decide (hdS r ∈ J.nd (laS r))
def rwS1 (J : CJ) (r : List Str) : List (List Str) := ((J.nd (laS r)).filter fun o => ltS (hdS r) o && !decide (o ∈ r)).map fun o => r ++ [o]
def rwS (J : CJ) (rows : List (List Str)) : List (List Str) := rows.flatMap (rwS1 J)
def rwN (J : CJ) : Nat → List (List Str)
  | 0 => J.ks.map fun s => [s]
  | n + 1 => rwS J (rwN J n)
def ringF (J : CJ) : Nat → List (List Str) → Option (List Str)
  | 0, _ => none
  | n + 1, rows => if rows = [] then none else if rows.filter (cloB J) = [] then ringF J n (rwS J rows) else some (mnR (rows.filter (cloB J)))
def rgL (J : CJ) : Option (List Str) := ringF J J.ks.length (rwN J 0)
def allR (J : CJ) : List (List Str) := (List.range J.ks.length).flatMap fun k => (rwN J k).filter (cloB J)
section
variable {J : CJ} {Q : D → Prop} {s t b : Str}
structure RwOk (J : CJ) (k : Nat) (r : List Str) : Prop where
  len : r.length = k + 1
  nd : r.Nodup
  sub : ∀ s ∈ r, s ∈ J.ks
theorem RwOk.ne {k : Nat} {r : List Str} (h : RwOk J k r) : r ≠ [] := fun e => by have := h.len; rw [e] at this; simp at this
theorem RwOk.la {k : Nat} {r : List Str} (h : RwOk J k r) : laS r ∈ J.ks := by
  have e2 : laS r = r.getLast h.ne := by unfold laS; rw [List.getLastD_eq_getLast?, List.getLast?_eq_some_getLast h.ne]; rfl
  rw [e2]
  exact h.sub _ (List.getLast_mem _)
theorem RwOk.hd {k : Nat} {r : List Str} (h : RwOk J k r) : hdS r ∈ J.ks := by
  have := h.ne
  cases r with
  | nil => exact absurd rfl this
  | cons a r => exact h.sub a (by simp)
theorem rwN_ok (ok : COk J) : ∀ (k : Nat), ∀ r ∈ rwN J k, RwOk J k r
  | 0, r, hr => by
    obtain ⟨s, hs, rfl⟩ := List.mem_map.mp hr
    exact ⟨rfl, by simp, fun t ht => by rw [List.mem_singleton.mp ht]; exact hs⟩
  | k + 1, r, hr => by
    obtain ⟨p, hp, hr⟩ := List.mem_flatMap.mp hr
    have ih := rwN_ok ok k p hp
    obtain ⟨o, ho, rfl⟩ := List.mem_map.mp hr
    obtain ⟨h1, h2⟩ := List.mem_filter.mp ho
    simp only [Bool.and_eq_true, Bool.not_eq_true', decide_eq_false_iff_not] at h2
    refine ⟨by rw [List.length_append, ih.len]; rfl, ?_, fun t ht => ?_⟩
    · rw [List.nodup_append]
      refine ⟨ih.nd, by simp, fun x hx y hy e => ?_⟩
      cases List.mem_singleton.mp hy
      exact h2.2 (e ▸ hx)
    · rcases List.mem_append.mp ht with ht | ht
      · exact ih.sub t ht
      · rw [List.mem_singleton.mp ht]
        exact ok.nds _ ih.la o h1
theorem rwS1_len (ok : COk J) {k : Nat} {r : List Str} (h : RwOk J k r) : (rwS1 J r).length ≤ 6 := by
  unfold rwS1
  rw [List.length_map]
  exact Nat.le_trans (List.length_filter_le _ _) (ok.ndl h.la)
theorem rwS_len (ok : COk J) {k : Nat} : ∀ (rows : List (List Str)), (∀ r ∈ rows, RwOk J k r) → (rwS J rows).length ≤ 6 * rows.length
  | [], _ => by simp [rwS]
  | r :: rows, h => by
    have h1 := rwS1_len ok (h r (by simp))
    have h2 := rwS_len ok rows fun r hr => h r (List.mem_cons_of_mem _ hr)
    unfold rwS at *
    rw [List.flatMap_cons, List.length_append, List.length_cons]
    omega
theorem rwN_len (ok : COk J) : ∀ k, (rwN J k).length ≤ 6 ^ (k + 1)
  | 0 => by
    have := ok.len
    unfold rwN
    rw [List.length_map]
    omega
  | k + 1 => by
    have h1 := rwN_len ok k
    have h2 := rwS_len ok (rwN J k) (rwN_ok ok k)
    show (rwS J (rwN J k)).length ≤ _
    rw [Nat.pow_succ]
    omega
theorem rwN_end (ok : COk J) {k : Nat} (h : J.ks.length ≤ k) : rwN J k = [] := by
  cases e : rwN J k with
  | nil => rfl
  | cons r rows =>
    have := rwN_ok ok k r (by rw [e]; simp)
    have h2 := nd_sub_len this.nd this.sub
    rw [this.len] at h2
    omega
theorem ringF_some : ∀ (n k : Nat) (r : List Str), ringF J n (rwN J k) = some r → ∃ j, k ≤ j ∧ j < k + n ∧ r ∈ (rwN J j).filter (cloB J) ∧ (∀ t ∈ (rwN J j).filter (cloB J), lexG ltS t r = false) ∧ ∀ i, k ≤ i → i < j → (rwN J i).filter (cloB J) = []
  | 0, k, r, e => by cases e
  | n + 1, k, r, e => by
    unfold ringF at e
    by_cases c1 : rwN J k = []
    · rw [if_pos c1] at e; cases e
    · rw [if_neg c1] at e
      by_cases c2 : (rwN J k).filter (cloB J) = []
      · rw [if_pos c2] at e
        obtain ⟨j, h1, h2, h3, h4, h5⟩ := ringF_some n (k + 1) r e
        refine ⟨j, by omega, by omega, h3, h4, fun i hi hj => ?_⟩
        by_cases c3 : i = k
        · rw [c3]; exact c2
        · exact h5 i (by omega) hj
      · rw [if_neg c2] at e
        cases e
        obtain ⟨m1, m2⟩ := mnR_spec c2
        exact ⟨k, Nat.le_refl _, by omega, m1, m2, fun i hi hj => by omega⟩
theorem rwN_nil {k : Nat} (h : rwN J k = []) : ∀ i, k ≤ i → rwN J i = [] := by
  intro i hi
  induction i with
  | zero => rw [Nat.le_zero.mp hi] at h; exact h
  | succ i ih =>
    by_cases c : k = i + 1
    · rw [← c]; exact h
    · show rwS J (rwN J i) = []
      rw [ih (by omega)]
      rfl
theorem ringF_none : ∀ (n k : Nat), ringF J n (rwN J k) = none → ∀ i, k ≤ i → i < k + n → (rwN J i).filter (cloB J) = []
  | 0, k, e, i, h1, h2 => by omega
  | n + 1, k, e, i, h1, h2 => by
    unfold ringF at e
    by_cases c1 : rwN J k = []
    · rw [rwN_nil c1 i h1]; rfl
    · rw [if_neg c1] at e
      by_cases c2 : (rwN J k).filter (cloB J) = []
      · rw [if_pos c2] at e
        by_cases c3 : i = k
        · rw [c3]; exact c2
        · exact ringF_none n (k + 1) e i (by omega) (by omega)
      · rw [if_neg c2] at e; cases e
/-! no ring found: no ring -/
def itF (f : Str → Str) : Nat → Str → Str
  | 0, s => s
  | n + 1, s => f (itF f n s)
theorem it_add (f : Str → Str) : ∀ (a b : Nat) (s : Str), itF f (a + b) s = itF f a (itF f b s)
  | 0, b, s => by rw [Nat.zero_add]; rfl
  | a + 1, b, s => by
    rw [Nat.succ_add]
    show f (itF f (a + b) s) = f (itF f a (itF f b s))
    rw [it_add f a b s]
theorem least_of {P : Nat → Prop} : ∀ n, P n → ∃ m, m ≤ n ∧ P m ∧ ∀ i, i < m → ¬ P i := by
  intro n
  induction n using Nat.strongRecOn with
  | _ n ih =>
    intro h
    by_cases c : ∃ i, i < n ∧ P i
    · obtain ⟨i, hi, hp⟩ := c
      obtain ⟨m, h1, h2, h3⟩ := ih i hi hp
      exact ⟨m, by omega, h2, h3⟩
    · exact ⟨n, Nat.le_refl _, h, fun i hi hp => c ⟨i, hi, hp⟩⟩
theorem ac_of (ok : COk J) (h : rgL J = none) : Ac J := by
  intro L hne hL
  refine Classical.byContradiction fun hno => ?_
  have hex : ∀ s, ∃ t, s ∈ L → t ∈ J.nd s ∧ t ∈ L := fun s => Classical.byContradiction fun hc => hno ⟨s, Classical.byContradiction fun hs => hc ⟨s, fun h => absurd h hs⟩, fun t ht hl => hc ⟨t, fun _ => ⟨ht, hl⟩⟩⟩
  obtain ⟨f, hf⟩ := Classical.axiomOfChoice hex
  have hit : ∀ (n : Nat) (s : Str), s ∈ L → itF f n s ∈ L := by
    intro n s hs
    induction n with
    | zero => exact hs
    | succ n ih => exact (hf _ ih).2
  have hnx : ∀ (n : Nat) (s : Str), s ∈ L → itF f (n + 1) s ∈ J.nd (itF f n s) := fun n s hs => (hf _ (hit n s hs)).1
  obtain ⟨s0, r0, e0⟩ := List.exists_cons_of_ne_nil hne
  have hs0 : s0 ∈ L := by rw [e0]; simp
  -- a point that comes back
  have hper : ∃ i j, i < j ∧ itF f i s0 = itF f j s0 := by
    refine Classical.byContradiction fun hc => ?_
    have hnd : ((List.range (J.ks.length + 1)).map fun n => itF f n s0).Nodup := by
      refine List.pairwise_map.mpr (List.pairwise_lt_range.imp fun {a b} hab e => hc ⟨a, b, hab, e⟩)
    have := nd_sub_len hnd fun x hx => by
      obtain ⟨n, _, rfl⟩ := List.mem_map.mp hx
      exact hL _ (hit n s0 hs0)
    rw [List.length_map, List.length_range] at this
    omega
  obtain ⟨i, j, hij, eij⟩ := hper
  let Pr : Str → Prop := fun s => ∃ p, 0 < p ∧ itF f p s = s
  have hx0 : Pr (itF f i s0) := ⟨j - i, by omega, by rw [← it_add, show j - i + i = j by omega, eij]⟩
  have dec : ∀ s, Decidable (Pr s) := fun s => Classical.propDecidable _
  let PL := L.filter fun s => decide (Pr s)
  have hPL : ∀ s, s ∈ PL ↔ s ∈ L ∧ Pr s := fun s => by simp [PL, List.mem_filter]
  have hPn : PL ≠ [] := fun e => by
    have : itF f i s0 ∈ PL := (hPL _).mpr ⟨hit i s0 hs0, hx0⟩
    rw [e] at this; cases this
  obtain ⟨m1, m2⟩ := mnT_spec hPn
  generalize mnT PL = x at *
  obtain ⟨hxL, p0, hp0, ep0⟩ := (hPL x).mp m1
  obtain ⟨p, _, ⟨hp, ep⟩, hmin⟩ := least_of (P := fun p => 0 < p ∧ itF f p x = x) p0 ⟨hp0, ep0⟩
  have hpr : ∀ k, itF f k x ∈ PL := fun k => (hPL _).mpr ⟨hit k x hxL, p, hp, by rw [← it_add, Nat.add_comm, it_add, ep]⟩
  have hrow : ∀ k, k < p → (List.range (k + 1)).map (fun n => itF f n x) ∈ rwN J k := by
    intro k
    induction k with
    | zero => intro _; exact List.mem_map.mpr ⟨x, hL x hxL, rfl⟩
    | succ k ih =>
      intro hk
      have ih := ih (by omega)
      refine List.mem_flatMap.mpr ⟨_, ih, ?_⟩
      rw [List.range_succ (n := k + 1), List.map_append]
      refine List.mem_map.mpr ⟨itF f (k + 1) x, List.mem_filter.mpr ⟨?_, ?_⟩, rfl⟩
      · rw [List.range_succ, List.map_append]
        show _ ∈ J.nd (laS (_ ++ [itF f k x]))
        rw [laS_app]
        exact hnx k x hxL
      · have hh : hdS ((List.range (k + 1)).map fun n => itF f n x) = x := by
          rw [List.range_succ_eq_map, List.map_cons]; rfl
        rw [hh]
        simp only [Bool.and_eq_true, Bool.not_eq_true', decide_eq_false_iff_not]
        constructor
        · cases c : ltS x (itF f (k + 1) x) with
          | true => rfl
          | false =>
            have := lo_str.anti _ _ c (m2 _ (hpr (k + 1)))
            exact absurd ⟨by omega, this.symm⟩ (hmin (k + 1) hk)
        · intro hm
          obtain ⟨q, hq, e⟩ := List.mem_map.mp hm
          have hq := List.mem_range.mp hq
          have e : itF f q x = itF f (k + 1) x := e
          have : itF f (p - (k + 1) + q) x = x := by
            rw [it_add, e, ← it_add, show p - (k + 1) + (k + 1) = p by omega, ep]
          exact hmin (p - (k + 1) + q) (by omega) ⟨by omega, this⟩
  have hr := hrow (p - 1) (by omega)
  have hro := rwN_ok ok _ _ hr
  have hl := nd_sub_len hro.nd hro.sub
  rw [hro.len] at hl
  have := ringF_none J.ks.length 0 h (p - 1) (by omega) (by omega)
  have hin : (List.range (p - 1 + 1)).map (fun n => itF f n x) ∈ (rwN J (p - 1)).filter (cloB J) := by
    refine List.mem_filter.mpr ⟨hr, ?_⟩
    unfold cloB
    have hh : hdS ((List.range (p - 1 + 1)).map fun n => itF f n x) = x := by
      rw [List.range_succ_eq_map, List.map_cons]; rfl
    rw [hh, List.range_succ, List.map_append]
    show decide (x ∈ J.nd (laS (_ ++ [itF f (p - 1) x]))) = true
    rw [laS_app]
    have := hnx (p - 1) x hxL
    rw [show p - 1 + 1 = p by omega, ep] at this
    simpa using this
  rw [this] at hin
  cases hin
end

end Mi

namespace Mi
open PySem PySem.Spec L2
/-! ### chains: ring, the code -/
section
variable {J : CJ} {Q : D → Prop} {s t b : Str}
def ndT (J : CJ) (s : Str) : D := .tuple (dStrs (J.nd s))
theorem row_flat (ok : COk J) {k : Nat} {r : List Str} (h : RwOk J k r) : flatD 2 (tDS r) = true := by
  unfold tDS flatD dStrs
  rw [List.all_eq_true]
  intro d hd
  obtain ⟨s, hs, rfl⟩ := List.mem_map.mp hd
  exact flat_nm (ok.nm s (h.sub s hs))
theorem rows_best (ok : COk J) {k : Nat} {xs : List (List Str)} (hne : xs ≠ []) (h : ∀ r ∈ xs, RwOk J k r) : BestOk (xs.map tDS) ∧ bestD false (xs.map tDS) = tDS (mnR xs) :=
  ⟨(lo_row lo_str).bestOk (n := 2) hne (fun x hx => row_flat ok (h x hx)) (fun _ _ e => by cases e), (lo_row lo_str).best (mnR_spec hne).1 (mnR_spec hne).2⟩
theorem map_empty {α : Type} {f : α → D} {xs : List α} : (xs.map f).isEmpty = xs.isEmpty := by cases xs <;> rfl
theorem pow6 {k : Nat} (h : k ≤ 6) : 6 ^ (k + 1) ≤ 279936 := by
  have := Nat.pow_le_pow_right (n := 6) (by omega) (show k + 1 ≤ 7 by omega)
  omega
theorem ring_ok (ok : COk J) (q : Q (match rgL J with | none => .none | some r => tDS r)) : m_ring [.v (joD J)] Q := by
  have hlen := ok.len
  unfold m_ring semD b_ring joD
  simp -implicitDefEqProofs
  unfold t_ring_2
  simp -implicitDefEqProofs
  refine for_pre (enc := jbD J) (xs := J.ks) (E := fun pre env => ∃ x2 x3 x4, env = [.v (.tuple (J.ks.map (jbD J))), .k (kvD pre (ndT J)), x2, x3, x4, .un, .un, .un, .un, .un]) (fun pre p post env R hx he hR => ?_) (fun e he => ?_) ⟨_, _, _, rfl⟩
  · obtain ⟨x2, x3, x4, rfl⟩ := he
    have hp : p ∉ pre := fun hm => by
      have nd := ok.nd
      rw [hx] at nd
      exact (List.nodup_append.mp nd).2.2 p hm p (by simp) rfl
    have hpl : pre.length ≤ 6 := by rw [hx, List.length_append] at hlen; omega
    unfold l_ring_1
    simp -implicitDefEqProofs [jbD]
    rw [kvD_len]
    refine ⟨by omega, ?_⟩
    rw [kvD_put_new hp]
    have e : kvD pre (ndT J) ++ [(.inr p, ndT J p)] = kvD (pre ++ [p]) (ndT J) := by unfold kvD; rw [List.map_append]; rfl
    have := hR _ ⟨.v (.str p), .v (dOI (J.du p)), .v (ndT J p), rfl⟩
    rw [← e] at this
    exact this
  · obtain ⟨x2, x3, x4, rfl⟩ := he
    unfold t_ring_3
    simp -implicitDefEqProofs
    rw [kvD_len]
    refine ⟨by omega, srtKeys_s (ks := J.ks) (by
      have := keysS_map (fun s : Str => s) (ndT J) J.ks
      simpa [kvD] using this) (fun k hk => by have := (ok.nm k hk).2; omega) ?_⟩
    rw [ssort_id ok.so]
    refine lc_all (enc := PyData.str) (f := fun s => tDS [s]) J.ks _ (fun s hs R hR => by simp -implicitDefEqProofs; exact hR) ?_
    have e0 : (J.ks.map fun s => tDS [s]) = (rwN J 0).map tDS := by unfold rwN; rw [List.map_map]; rfl
    rw [e0]
    unfold t_ring_4
    simp -implicitDefEqProofs
    refine ⟨J.ks.length + 1, wh_ind (I := fun n env => ∃ k x2 x6 x7 x8 x9, n + k = J.ks.length ∧ ringF J n (rwN J k) = rgL J ∧ env = [.v (.tuple (J.ks.map (jbD J))), .k (kvD J.ks (ndT J)), x2, x3, x4, .v (.list ((rwN J k).map tDS)), x6, x7, x8, x9]) (fun n env hI R hR => ?_) J.ks.length _ ⟨0, _, _, _, _, _, rfl, rfl, rfl⟩⟩
    obtain ⟨k, x2, x6, x7, x8, x9, hn, hrg, rfl⟩ := hI
    simp -implicitDefEqProofs [map_empty]
    have hrl := rwN_len ok k
    have h6 := pow6 (k := k) (by omega)
    have hro := rwN_ok ok k
    have hrl2 := rwN_len ok (k + 1)
    have hnn : rwN J (k + 1) = rwS J (rwN J k) := rfl
    by_cases c1 : rwN J k = []
    · have : rgL J = none := by
        rw [← hrg, c1]
        cases n with
        | zero => rfl
        | succ n => unfold ringF; rw [if_pos rfl]
      rw [this] at q
      rw [if_pos c1]
      unfold t_ring_5
      simp -implicitDefEqProofs
      exact q
    · have hbool : (rwN J k).isEmpty = false := by
        cases e : rwN J k with
        | nil => exact absurd e c1
        | cons a r => rfl
      have hk : k < J.ks.length := Nat.lt_of_not_le fun h => c1 (rwN_end ok h)
      obtain ⟨n, rfl⟩ : ∃ m, n = m + 1 := ⟨n - 1, by omega⟩
      unfold ringF at hrg
      rw [if_neg c1] at hrg
      rw [← hnn] at hrg
      rw [if_neg c1]
      unfold l_ring_3
      simp -implicitDefEqProofs
      refine lc_map (enc := tDS) (p := cloB J) (f := tDS) (rwN J k) _ (fun r hr R S h1 h2 => ?_) ?_
      · have ho := hro r hr
        simp -implicitDefEqProofs [tDS]
        rw [at_hd ho.ne]
        simp -implicitDefEqProofs
        rw [at_la ho.ne]
        simp -implicitDefEqProofs
        rw [kvD_get ho.la]
        simp -implicitDefEqProofs [ndT]
        rw [show dStrs (J.nd (laS r)) = dS (J.nd (laS r)) from rfl, in_tS (ok.nm _ ho.hd).1 fun x hx => (ok.sn ho.la hx).1]
        cases e : decide (hdS r ∈ J.nd (laS r))
        · exact h2 e
        · exact h1 e
      · have hGs : ∀ r ∈ (rwN J k).filter (cloB J), RwOk J k r := fun r hr => hro r (List.mem_filter.mp hr).1
        generalize (rwN J k).filter (cloB J) = G at *
        unfold v_ring_3
        simp -implicitDefEqProofs [map_empty]
        by_cases c2 : G = []
        · rw [if_pos c2] at hrg
          rw [if_pos (by simpa using c2)]
          unfold v_ring_2
          simp -implicitDefEqProofs
          unfold v_ring_1
          simp -implicitDefEqProofs
          generalize rwN J k = rows at *
          refine for_pre (enc := tDS) (xs := rows) (E := fun pre env => ∃ x7 x9, env = [.v (.tuple (J.ks.map (jbD J))), .k (kvD J.ks (ndT J)), x2, x3, x4, .v (.list (rows.map tDS)), .v (.list (G.map tDS)), x7, .l ((rwS J pre).map tDS), x9]) (fun pre r post env R hx he hR2 => ?_) (fun e he => ?_) ⟨_, _, rfl⟩
          · obtain ⟨x7, x9, rfl⟩ := he
            have hr : r ∈ rows := by rw [hx]; simp
            have ho := hro r hr
            have hpl := rwS_len ok pre fun r hr => hro r (by rw [hx]; exact List.mem_append_left _ hr)
            have h1l := rwS1_len ok ho
            have hprl : pre.length ≤ 279936 := by rw [hx, List.length_append] at hrl; omega
            unfold l_ring_2
            simp -implicitDefEqProofs [tDS]
            rw [at_la ho.ne]
            simp -implicitDefEqProofs
            rw [kvD_get ho.la]
            simp -implicitDefEqProofs [ndT]
            refine lc_map (enc := PyData.str) (p := fun o => ltS (hdS r) o && !decide (o ∈ r)) (f := fun o => tDS (r ++ [o])) (J.nd (laS r)) _ (fun o ho' R S h1 h2 => ?_) ?_
            · simp -implicitDefEqProofs
              rw [at_hd ho.ne]
              have egt : gtD (.str o) (.str (hdS r)) = some (.bool (ltS (hdS r) o)) := rfl
              simp -implicitDefEqProofs [egt]
              cases e1 : ltS (hdS r) o
              · simp -implicitDefEqProofs
                exact h2 (by rw [e1]; rfl)
              · simp -implicitDefEqProofs
                rw [show dStrs r = dS r from rfl, nin_tS (ok.sn ho.la ho').1 fun x hx => (ok.nm x (ho.sub x hx)).1]
                have hrl' := ho.len
                rw [add_tt (by rw [dS_len]; simp; omega)]
                have ead : dS r ++ [PyData.str o] = dStrs (r ++ [o]) := by unfold dStrs dS; rw [List.map_append]; rfl
                cases e2 : decide (o ∈ r)
                · simp -implicitDefEqProofs [ead]
                  exact h1 (by rw [e1, e2]; rfl)
                · simp -implicitDefEqProofs
                  exact h2 (by rw [e1, e2]; rfl)
            · have e3 : (((J.nd (laS r)).filter fun o => ltS (hdS r) o && !decide (o ∈ r)).map fun o => tDS (r ++ [o])) = (rwS1 J r).map tDS := by unfold rwS1; rw [List.map_map]; rfl
              rw [e3]
              simp -implicitDefEqProofs
              refine ⟨by omega, ?_⟩
              have e4 : rwS J (pre ++ [r]) = rwS J pre ++ rwS1 J r := by unfold rwS; rw [List.flatMap_append]; simp
              have := hR2 _ ⟨.v (tDS r), x9, rfl⟩
              rw [e4, List.map_append] at this
              exact this
          · obtain ⟨x7, x9, rfl⟩ := he
            simp -implicitDefEqProofs
            rw [← hnn]
            exact hR _ n rfl ⟨k + 1, x2, .v (.list (G.map tDS)), x7, .v (.list ((rwN J (k + 1)).map tDS)), x9, by omega, hrg, rfl⟩
        · rw [if_neg c2] at hrg
          rw [if_neg (by simpa using c2)]
          obtain ⟨b1, b2⟩ := rows_best ok c2 hGs
          rw [← hrg] at q
          refine ⟨b1, ?_⟩
          rw [b2]
          exact q
end

end Mi

namespace Mi
open PySem PySem.Spec L2
/-! ### chains: jobs as drawn rows -/
abbrev JR := Str × Int × List Str × Int × Option Int
def jrD (r : JR) : D := .tuple [.str r.1, .int r.2.1, .tuple (dStrs r.2.2.1), .int r.2.2.2.1, dOI r.2.2.2.2]
def jrG (rs : List JR) (s : Str) : JR := (rs.find? fun r => decide (r.1 = s)).getD ("", 0, [], 0, none)
def cjF (rs : List JR) : CJ := ⟨rs.map (·.1), fun s => (jrG rs s).2.1, fun s => (jrG rs s).2.2.1, fun s => (jrG rs s).2.2.2.1, fun s => (jrG rs s).2.2.2.2⟩
theorem jrG_of {rs : List JR} (nd : (rs.map (·.1)).Nodup) {x : JR} (hx : x ∈ rs) : jrG rs x.1 = x := by
  have : rs.find? (fun r => decide (r.1 = x.1)) = some x := by
    induction rs with
    | nil => cases hx
    | cons r rs ih =>
      rw [List.map_cons, List.nodup_cons] at nd
      rw [List.find?_cons]
      rcases List.mem_cons.mp hx with rfl | hx
      · simp
      · have : ¬ r.1 = x.1 := fun e => nd.1 (List.mem_map.mpr ⟨x, hx, e.symm⟩)
        simp [this]
        simpa using ih nd.2 hx
  unfold jrG
  rw [this]; rfl
theorem cjF_D {rs : List JR} (nd : (rs.map (·.1)).Nodup) : joD (cjF rs) = .tuple (rs.map jrD) := by
  unfold joD cjF
  simp only [List.map_map]
  congr 1
  refine List.map_congr_left fun x hx => ?_
  show jbD _ x.1 = jrD x
  unfold jbD jrD
  simp only [jrG_of nd hx]
def nm5 : List Str := ["asp", "bat", "cod", "doe", "eel"]
theorem nm5_ok : ∀ s ∈ nm5, NmO s := by
  intro s hs
  simp only [nm5, List.mem_cons, List.not_mem_nil, or_false] at hs
  rcases hs with rfl | rfl | rfl | rfl | rfl <;> exact ⟨by decide +kernel, by decide +kernel⟩
theorem nm5_so (n : Nat) : (nm5.take n).Pairwise fun a b => ltS a b = true := List.Pairwise.sublist (List.take_sublist _ _) (by decide +kernel)
structure JRok (names : List Str) (r : JR) : Prop where
  lg : 1 ≤ r.2.1 ∧ r.2.1 ≤ 6
  nd : r.2.2.1.Sublist names
  rd : 0 ≤ r.2.2.2.1 ∧ r.2.2.2.1 ≤ 8
theorem cj_ok {n : Nat} (h0 : 1 ≤ n) (h5 : n ≤ 5) {rs : List JR} (hn : rs.map (·.1) = nm5.take n) (h : ∀ r ∈ rs, JRok (nm5.take n) r) : COk (cjF rs) ∧ (∀ s ∈ (cjF rs).ks, 1 ≤ (cjF rs).lg s ∧ (cjF rs).lg s ≤ 6) ∧ (∀ s ∈ (cjF rs).ks, (cjF rs).rd s ≤ 8) ∧ (cjF rs).ks = nm5.take n := by
  have hks : (cjF rs).ks = nm5.take n := hn
  have so := nm5_so n
  have nd : (rs.map (·.1)).Nodup := by rw [hn]; exact ltS_nd so
  have hl : (nm5.take n).length = n := by rw [List.length_take]; exact Nat.min_eq_left h5
  have key : ∀ s ∈ (cjF rs).ks, ∃ x ∈ rs, x.1 = s ∧ jrG rs s = x := fun s hs => by
    obtain ⟨x, hx, rfl⟩ := List.mem_map.mp hs
    exact ⟨x, hx, rfl, jrG_of nd hx⟩
  refine ⟨⟨by rw [hks]; exact so, fun e => ?_, by rw [hks, hl]; omega, fun s hs => ?_, fun s hs => ?_, fun s hs t ht => ?_, fun s hs => ?_, fun s hs => nm5_ok s (List.mem_of_mem_take (by rw [← hks]; exact hs))⟩, fun s hs => ?_, fun s hs => ?_, hks⟩
  · rw [hks] at e
    rw [e] at hl
    simp at hl
    omega
  · obtain ⟨x, hx, _, e⟩ := key s hs
    show 0 ≤ (jrG rs s).2.1
    rw [e]; have := (h x hx).lg; omega
  · obtain ⟨x, hx, _, e⟩ := key s hs
    show 0 ≤ (jrG rs s).2.2.2.1
    rw [e]; exact (h x hx).rd.1
  · obtain ⟨x, hx, _, e⟩ := key s hs
    have ht : t ∈ (jrG rs s).2.2.1 := ht
    rw [e] at ht
    rw [hks]
    exact (h x hx).nd.subset ht
  · obtain ⟨x, hx, _, e⟩ := key s hs
    show (jrG rs s).2.2.1.Nodup
    rw [e]
    exact (ltS_nd so).sublist (h x hx).nd
  · obtain ⟨x, hx, _, e⟩ := key s hs
    show 1 ≤ (jrG rs s).2.1 ∧ (jrG rs s).2.1 ≤ 6
    rw [e]; exact (h x hx).lg
  · obtain ⟨x, hx, _, e⟩ := key s hs
    show (jrG rs s).2.2.2.1 ≤ 8
    rw [e]; exact (h x hx).rd.2
theorem enumI_snd {α : Type} : ∀ (k : Int) (L : List α), (enumI k L).map (·.2) = L
  | _, [] => rfl
  | k, a :: L => by simp [enumI, enumI_snd (k + 1) L]

end Mi

namespace Mi
open PySem PySem.Spec L2
/-! ### k27: chains that stretch (plain laws) -/
section
variable {J : CJ} {Q : D → Prop} {s t b n : Str}
theorem topo_ind (ok : COk J) (to : Topo J (ordL J)) {P : Str → Prop} (h : ∀ s ∈ J.ks, (∀ t ∈ J.nd s, P t) → P s) : ∀ s ∈ J.ks, P s := by
  have key : ∀ (n : Nat) (s : Str), s ∈ J.ks → Bh J n s → P s := by
    intro n
    induction n with
    | zero =>
      intro s hs hb
      refine h s hs fun t ht => ?_
      obtain ⟨m, hm, _⟩ := bh_next to hb ht
      omega
    | succ n ih =>
      intro s hs hb
      refine h s hs fun t ht => ?_
      obtain ⟨m, hm, hbt⟩ := bh_next to hb ht
      cases hm
      exact ih t (ok.nds s hs t ht) hbt
  exact fun s hs => key _ s hs (bh_all to hs)
theorem bg_ge (ok : COk J) (to : Topo J (ordL J)) {c : Str → Int} (h : ∀ s ∈ J.ks, bgV J c s ≤ c s) : ∀ s ∈ J.ks, bgF J s ≤ c s := by
  refine topo_ind ok to fun s hs ih => ?_
  have hc := h s hs
  have hv := bgV_spec (J := J) (s := s) (b := c)
  rw [bg_fix ok to hs]
  refine bgV_le (by omega) fun t ht => ?_
  have := ih t ht
  have := hv.2.1 t ht
  omega
theorem bg_lt (ok : COk J) (to : Topo J (ordL J)) {c : Str → Int} (h : ∀ s ∈ J.ks, c s ≤ bgV J c s) : ∀ s ∈ J.ks, c s ≤ bgF J s := by
  refine topo_ind ok to fun s hs ih => ?_
  have hc := h s hs
  have hv := bgV_spec (J := J) (s := s) (b := c)
  have hf := bgV_spec (J := J) (s := s) (b := bgF J)
  rw [bg_fix ok to hs]
  rcases hv.2.2 with e | ⟨t, ht, e⟩
  · omega
  · have := ih t ht
    have := hf.2.1 t ht
    omega
theorem ac_low (h : ∀ s ∈ J.ks, ∀ t ∈ J.nd s, ltS t s = true) : Ac J := by
  intro L hne hL
  obtain ⟨h1, h2⟩ := mnT_spec hne
  refine ⟨mnT L, h1, fun t ht htl => ?_⟩
  have := h _ (hL _ h1) t ht
  rw [h2 t htl] at this
  cases this
theorem laS_one (s : Str) : laS [s] = s := rfl
theorem hdS_one (s : Str) : hdS [s] = s := rfl
theorem rwS1_low (h : ∀ t ∈ J.nd s, ltS t s = true) : rwS1 J [s] = [] := by
  unfold rwS1
  rw [laS_one, hdS_one, List.filter_eq_nil_iff.mpr fun t ht => ?_]
  · rfl
  · have := lo_str.as _ _ (h t ht)
    simp [this]
theorem clo_low (h : ∀ t ∈ J.nd s, ltS t s = true) : cloB J [s] = false := by
  unfold cloB
  rw [laS_one, hdS_one]
  refine decide_eq_false fun hm => ?_
  have := h s hm
  rw [ltS_irr] at this
  cases this
theorem ringF_nil (k : Nat) : ringF J k [] = none := by
  cases k with
  | zero => rfl
  | succ k => unfold ringF; rw [if_pos rfl]
theorem rg_none (h : ∀ s ∈ J.ks, ∀ t ∈ J.nd s, ltS t s = true) : rgL J = none := by
  unfold rgL
  cases e : J.ks.length with
  | zero => rfl
  | succ k =>
    unfold ringF
    by_cases c : rwN J 0 = []
    · rw [if_pos c]
    · rw [if_neg c]
      have h1 : (rwN J 0).filter (cloB J) = [] := List.filter_eq_nil_iff.mpr fun r hr => by
        obtain ⟨s, hs, rfl⟩ := List.mem_map.mp hr
        rw [clo_low (h s hs)]; simp
      have h2 : rwS J (rwN J 0) = [] := by
        unfold rwS
        refine List.flatMap_eq_nil_iff.mpr fun r hr => ?_
        obtain ⟨s, hs, rfl⟩ := List.mem_map.mp hr
        exact rwS1_low (h s hs)
      rw [if_pos h1, h2, ringF_nil]
theorem rg_two {a z : Str} {rest : List Str} (hk : J.ks = a :: z :: rest) (ha : J.nd a = [z]) (hz : J.nd z = [a]) (haz : ltS a z = true) (h : ∀ s ∈ rest, ∀ t ∈ J.nd s, ltS t s = true) : rgL J = some [a, z] := by
  have nz : a ≠ z := fun e => by rw [e, ltS_irr] at haz; cases haz
  have hza := lo_str.as _ _ haz
  have e0 : rwN J 0 = [a] :: [z] :: rest.map fun s => [s] := by show J.ks.map _ = _; rw [hk]; rfl
  have c1 : cloB J [a] = false := by unfold cloB; rw [laS_one, hdS_one, ha]; simpa using nz
  have c2 : cloB J [z] = false := by unfold cloB; rw [laS_one, hdS_one, hz]; simpa using fun e : z = a => nz e.symm
  have h1 : (rwN J 0).filter (cloB J) = [] := List.filter_eq_nil_iff.mpr fun r hr => by
    rw [e0] at hr
    rcases List.mem_cons.mp hr with rfl | hr
    · rw [c1]; simp
    rcases List.mem_cons.mp hr with rfl | hr
    · rw [c2]; simp
    obtain ⟨s, hs, rfl⟩ := List.mem_map.mp hr
    rw [clo_low (h s hs)]; simp
  have r1 : rwS1 J [a] = [[a, z]] := by
    unfold rwS1
    rw [laS_one, hdS_one, ha]
    have : ¬ z = a := fun e => nz e.symm
    simp [haz, this]
  have r2 : rwS1 J [z] = [] := by
    unfold rwS1
    rw [laS_one, hdS_one, hz]
    have : ltS z a = false := hza
    simp [this]
  have h2 : rwS J (rwN J 0) = [[a, z]] := by
    rw [e0]
    unfold rwS
    rw [List.flatMap_cons, List.flatMap_cons, r1, r2, List.flatMap_eq_nil_iff.mpr fun r hr => ?_]
    · rfl
    · obtain ⟨s, hs, rfl⟩ := List.mem_map.mp hr
      exact rwS1_low (h s hs)
  have h3 : [[a, z]].filter (cloB J) = [[a, z]] := by
    have : cloB J [a, z] = true := by unfold cloB; show decide (a ∈ J.nd z) = true; rw [hz]; simp
    rw [List.filter_cons_of_pos this]; rfl
  unfold rgL
  rw [show J.ks.length = (rest.length + 1) + 1 by rw [hk]; rfl]
  unfold ringF
  rw [if_neg (by rw [e0]; simp), if_pos h1, h2]
  unfold ringF
  rw [if_neg (by simp), h3, if_neg (by simp)]
  obtain ⟨g1, _⟩ := mnR_spec (xs := [[a, z]]) (by simp)
  rw [List.mem_singleton.mp g1]
/-- all times and lengths times a number -/
def scJ (J : CJ) (k : Int) : CJ := { J with lg := fun s => J.lg s * k, rd := fun s => J.rd s * k, du := fun s => (J.du s).map fun d => d * k }
theorem scj_ok (ok : COk J) {k : Int} (hk : 0 ≤ k) : COk (scJ J k) := ⟨ok.so, ok.ne, ok.len, fun s hs => Int.mul_nonneg (ok.lg0 s hs) hk, fun s hs => Int.mul_nonneg (ok.rd0 s hs) hk, ok.nds, ok.ndn, ok.nm⟩
theorem scj_bg (ok : COk J) (ac : Ac J) {k : Int} (hk : 0 ≤ k) : ∀ s ∈ J.ks, bgF (scJ J k) s = bgF J s * k := by
  have to := ordL_topo ok ac
  have ok2 := scj_ok ok hk
  have ac2 : Ac (scJ J k) := ac
  have to2 := ordL_topo ok2 ac2
  have key : ∀ s ∈ J.ks, bgV (scJ J k) (fun s => bgF J s * k) s = bgF J s * k := fun s hs => by
    have hf := bgV_spec (J := J) (s := s) (b := bgF J)
    rw [← bg_fix ok to hs] at hf
    have hv := bgV_spec (J := scJ J k) (s := s) (b := fun s => bgF J s * k)
    refine Int.le_antisymm (bgV_le ?_ fun t ht => ?_) ?_
    · exact Int.mul_le_mul_of_nonneg_right hf.1 hk
    · have := Int.mul_le_mul_of_nonneg_right (hf.2.1 t ht) hk
      rw [Int.add_mul] at this
      exact this
    · rcases hf.2.2 with e | ⟨t, ht, e⟩
      · rw [e]; exact hv.1
      · rw [e, Int.add_mul]; exact hv.2.1 t ht
  intro s hs
  have h1 := bg_ge ok2 to2 (c := fun s => bgF J s * k) (fun s hs => by rw [key s hs]; exact Int.le_refl _) s hs
  have h2 := bg_lt ok2 to2 (c := fun s => bgF J s * k) (fun s hs => by rw [key s hs]; exact Int.le_refl _) s hs
  exact Int.le_antisymm h1 h2
theorem scj_late (ok : COk J) (ac : Ac J) {k : Int} (hk : 0 < k) (hs : s ∈ J.ks) : lateB (scJ J k) s = lateB J s := by
  unfold lateB
  rw [scj_bg ok ac (by omega) s hs]
  show (match (J.du s).map fun d => d * k with | none => false | some d => decide (d < bgF J s * k + J.lg s * k)) = _
  cases J.du s with
  | none => rfl
  | some d =>
    show decide (d * k < bgF J s * k + J.lg s * k) = decide (d < bgF J s + J.lg s)
    rw [← Int.add_mul, decide_eq_decide]
    exact ⟨fun h => Int.lt_of_mul_lt_mul_right h (by omega), fun h => Int.mul_lt_mul_of_pos_right h hk⟩
/-- more needs never let a begin be earlier -/
theorem mo_bg {J' : CJ} (ok : COk J) (ac : Ac J) (ok' : COk J') (ac' : Ac J') (hk : J'.ks = J.ks) (hl : ∀ s ∈ J.ks, J'.lg s = J.lg s) (hr : ∀ s ∈ J.ks, J'.rd s = J.rd s) (hn : ∀ s ∈ J.ks, ∀ t ∈ J.nd s, t ∈ J'.nd s) : ∀ s ∈ J.ks, bgF J s ≤ bgF J' s := by
  have to := ordL_topo ok ac
  have to' := ordL_topo ok' ac'
  refine bg_ge ok to fun s hs => ?_
  have hf := bgV_spec (J := J') (s := s) (b := bgF J')
  rw [← bg_fix ok' to' (by rw [hk]; exact hs)] at hf
  refine bgV_le (by rw [← hr s hs]; exact hf.1) fun t ht => ?_
  have := hf.2.1 t (hn s hs t ht)
  rw [hl t (ok.nds s hs t ht)] at this
  exact this
/-! latest begins -/
theorem no_late (ok : COk J) (ac : Ac J) (h : ∀ s ∈ J.ks, lateB J s = false) (hs : s ∈ J.ks) : leO (some (bgF J s + J.lg s)) (enF J s) := by
  have to := ordL_topo ok ac
  have := fold_sound (lg := J.lg) (F := fun s => if s ∈ J.ks then some (bgF J s + J.lg s) else J.du s) (prs J (ordL J).reverse) J.du (fun s => ?_) (fun p hp => ?_) s
  · have e : (if s ∈ J.ks then some (bgF J s + J.lg s) else J.du s) = some (bgF J s + J.lg s) := if_pos hs
    rw [← e]
    exact this
  · by_cases c : s ∈ J.ks
    · show leO (if s ∈ J.ks then some (bgF J s + J.lg s) else J.du s) _
      rw [if_pos c]
      have hl := h s c
      unfold lateB at hl
      cases e : J.du s with
      | none => simp [leO]
      | some d =>
        rw [e] at hl
        have hl : decide (d < bgF J s + J.lg s) = false := hl
        show bgF J s + J.lg s ≤ d
        have := of_decide_eq_false hl
        omega
    · show leO (if s ∈ J.ks then some (bgF J s + J.lg s) else J.du s) _
      rw [if_neg c]
      exact leO_rfl _
  · obtain ⟨b, t⟩ := p
    obtain ⟨h1, h2⟩ := prs_mem.mp hp
    have hb : b ∈ J.ks := to.perm.subset (List.mem_reverse.mp h1)
    have ht := ok.nds b hb t h2
    show leO (if t ∈ J.ks then some (bgF J t + J.lg t) else J.du t) (shO (if b ∈ J.ks then some (bgF J b + J.lg b) else J.du b) (J.lg b))
    rw [if_pos ht, if_pos hb]
    show bgF J t + J.lg t ≤ bgF J b + J.lg b - J.lg b
    have := (bgV_spec (J := J) (s := b) (b := bgF J)).2.1 t h2
    rw [← bg_fix ok to hb] at this
    omega
end

end Mi

namespace Mi
open PySem PySem.Spec L2
/-! ### k27: the holding chain, the gain -/
section
variable {J : CJ} {Q : D → Prop} {s t b n : Str}
def Lk (J : CJ) : List Str → Prop
  | [] => True
  | [_] => True
  | a :: b :: r => bgF J a + J.lg a = bgF J b ∧ Lk J (b :: r)
theorem lk_zip : ∀ {r : List Str}, Lk J r → ∀ p ∈ r.zip (r.drop 1), bgF J p.1 + J.lg p.1 = bgF J p.2
  | [], _, p, hp => by cases hp
  | [_], _, p, hp => by cases hp
  | a :: b :: r, h, p, hp => by
    rw [List.drop_one, List.tail_cons, List.zip_cons_cons] at hp
    rcases List.mem_cons.mp hp with rfl | hp
    · exact h.1
    · exact lk_zip (r := b :: r) h.2 p (by rw [List.drop_one, List.tail_cons]; exact hp)
theorem hld_nil (ok : COk J) (to : Topo J (ordL J)) (hs : s ∈ J.ks) (h : hldL J s = []) : bgF J s = J.rd s := by
  have hf := bgV_spec (J := J) (s := s) (b := bgF J)
  rw [← bg_fix ok to hs] at hf
  rcases hf.2.2 with e | ⟨t, ht, e⟩
  · exact e
  · have : t ∈ hldL J s := List.mem_filter.mpr ⟨ht, decide_eq_true e.symm⟩
    rw [h] at this
    cases this
theorem laS_cons {a : Str} {r : List Str} (h : r ≠ []) : laS (a :: r) = laS r := by
  unfold laS
  cases r with
  | nil => exact absurd rfl h
  | cons b r => rw [List.getLastD_eq_getLast?, List.getLastD_eq_getLast?, List.getLast?_cons_cons]
structure ChOk (J : CJ) (s : Str) (r out : List Str) : Prop where
  lk : Lk J out
  ne : out ≠ []
  la : laS out = laS (s :: r)
  hd : hdS out ∈ J.ks ∧ bgF J (hdS out) = J.rd (hdS out)
  sub : ∀ x ∈ out, x ∈ J.ks
theorem ch_ok (ok : COk J) (to : Topo J (ordL J)) : ∀ (n : Nat) (s : Str) (r : List Str), s ∈ J.ks → (∀ x ∈ r, x ∈ J.ks) → Bh J n s → Lk J (s :: r) → ChOk J s r (chF J n s r) := by
  intro n
  induction n with
  | zero =>
    intro s r hs hr hb lk
    have h0 : hldL J s = [] := by
      cases e : hldL J s with
      | nil => rfl
      | cons t l =>
        obtain ⟨m, hm, _⟩ := bh_next to hb (hld_in (by rw [e]; simp : t ∈ hldL J s))
        omega
    exact ⟨lk, by simp [chF], rfl, ⟨hs, hld_nil ok to hs h0⟩, fun x hx => (List.mem_cons.mp hx).elim (fun e => e ▸ hs) (hr x)⟩
  | succ n ih =>
    intro s r hs hr hb lk
    unfold chF
    by_cases c : hldL J s = []
    · rw [if_pos c]
      exact ⟨lk, by simp, rfl, ⟨hs, hld_nil ok to hs c⟩, fun x hx => (List.mem_cons.mp hx).elim (fun e => e ▸ hs) (hr x)⟩
    · rw [if_neg c]
      obtain ⟨h1, _⟩ := mnT_spec c
      obtain ⟨m, hm, hbt⟩ := bh_next to hb (hld_in h1)
      cases hm
      have hk := ok.nds s hs _ (hld_in h1)
      have e1 : bgF J (mnT (hldL J s)) + J.lg (mnT (hldL J s)) = bgF J s := of_decide_eq_true (List.mem_filter.mp h1).2
      have := ih (mnT (hldL J s)) (s :: r) hk (fun x hx => (List.mem_cons.mp hx).elim (fun e => e ▸ hs) (hr x)) hbt ⟨e1, lk⟩
      exact ⟨this.lk, this.ne, by rw [this.la, laS_cons (by simp)], this.hd, this.sub⟩
theorem chL_ok (ok : COk J) (ac : Ac J) (hs : s ∈ J.ks) : ChOk J s [] (chL J s) := by
  have to := ordL_topo ok ac
  exact ch_ok ok to _ _ _ hs (fun x hx => by cases hx) (bh_all to hs) trivial
/-! the gain -/
theorem qk_lgN : (qkJ J n).lg n = 0 := if_pos rfl
theorem qk_lgO (h : t ≠ n) : (qkJ J n).lg t = J.lg t := if_neg h
theorem qk_pre (ok : COk J) (ac : Ac J) : ∀ (k : Nat) (a c : List Str), a.length = k → ordL J = a ++ c → n ∉ a → ∀ s ∈ a, bgF (qkJ J n) s = bgF J s := by
  have to := ordL_topo ok ac
  have to2 := ordL_topo (qk_ok ok n) (qk_ac ac n)
  intro k
  induction k with
  | zero =>
    intro a c hk _ _ s hs
    rw [List.eq_nil_of_length_eq_zero hk] at hs
    cases hs
  | succ k ih =>
    intro a c hk e hn s hs
    obtain ⟨a', x, rfl⟩ : ∃ a' x, a = a' ++ [x] := ⟨a.dropLast, a.getLast (by intro z; rw [z] at hk; simp at hk), (List.dropLast_concat_getLast _).symm⟩
    have hn' : n ∉ a' := fun z => hn (List.mem_append_left _ z)
    have hl : a'.length = k := by rw [List.length_append] at hk; simpa using hk
    have ih' := ih a' ([x] ++ c) hl (by rw [e, List.append_assoc]) hn'
    rcases List.mem_append.mp hs with hs | hs
    · exact ih' s hs
    · cases List.mem_singleton.mp hs
      have e2 : ordL J = a' ++ s :: c := by rw [e, List.append_assoc]; rfl
      have hks : s ∈ J.ks := to.perm.subset (by rw [e2]; simp)
      have hp := to.pre a' s c e2
      rw [bg_fix ok to hks, bg_fix (qk_ok ok n) to2 hks]
      unfold bgV
      congr 2
      show (J.nd s).map _ = _
      refine List.map_congr_left fun t ht => ?_
      have hta := hp t ht
      rw [ih' t hta, qk_lgO (n := n) (fun z => hn' (by rw [← z]; exact hta))]
theorem qk_self (ok : COk J) (ac : Ac J) (hn : n ∈ J.ks) : bgF (qkJ J n) n = bgF J n := by
  have to := ordL_topo ok ac
  have to2 := ordL_topo (qk_ok ok n) (qk_ac ac n)
  have nd : (ordL J).Nodup := to.perm.nodup_iff.mpr ok.nd
  obtain ⟨a, c, e⟩ := List.append_of_mem (to.perm.symm.subset hn)
  have hna : n ∉ a := fun z => by
    rw [e] at nd
    exact (List.nodup_append.mp nd).2.2 n z n (by simp) rfl
  have hp := to.pre a n c e
  have hq := qk_pre (n := n) ok ac a.length a (n :: c) rfl e hna
  rw [bg_fix ok to hn, bg_fix (qk_ok ok n) to2 hn]
  unfold bgV
  congr 2
  show (J.nd n).map _ = _
  refine List.map_congr_left fun t ht => ?_
  have hta := hp t ht
  rw [hq t hta, qk_lgO (n := n) (fun z => hna (by rw [← z]; exact hta))]
theorem qk_le (ok : COk J) (ac : Ac J) (hn : n ∈ J.ks) : ∀ s ∈ J.ks, bgF (qkJ J n) s ≤ bgF J s ∧ bgF J s ≤ bgF (qkJ J n) s + J.lg n := by
  have to := ordL_topo ok ac
  have to2 := ordL_topo (qk_ok ok n) (qk_ac ac n)
  have hg := ok.lg0 n hn
  refine topo_ind ok to fun s hs ih => ?_
  have h1 := bgV_spec (J := J) (s := s) (b := bgF J)
  rw [← bg_fix ok to hs] at h1
  have h2 := bgV_spec (J := qkJ J n) (s := s) (b := bgF (qkJ J n))
  rw [← bg_fix (qk_ok ok n) to2 hs] at h2
  have hrd : (qkJ J n).rd s = J.rd s := rfl
  constructor
  · rw [bg_fix (qk_ok ok n) to2 hs]
    refine bgV_le (by rw [hrd]; exact h1.1) fun t ht => ?_
    have e1 := (ih t ht).1
    have e2 := h1.2.1 t ht
    by_cases c : t = n
    · subst c; rw [qk_lgN]; omega
    · rw [qk_lgO c]; omega
  · rw [bg_fix ok to hs]
    refine bgV_le (by rw [hrd] at h2; omega) fun t ht => ?_
    have e1 := (ih t ht).2
    have e2 := h2.2.1 t ht
    by_cases c : t = n
    · subst c
      rw [qk_lgN, qk_self ok ac hn] at e2
      omega
    · rw [qk_lgO c] at e2; omega
theorem qk_off (ok : COk J) (ac : Ac J) : ∀ (k : Nat) (s : Str) (r : List Str), s ∈ J.ks → Bh J k s → n ∉ chF J k s r → bgF J s ≤ bgF (qkJ J n) s := by
  have to := ordL_topo ok ac
  have to2 := ordL_topo (qk_ok ok n) (qk_ac ac n)
  have base : ∀ s ∈ J.ks, hldL J s = [] → bgF J s ≤ bgF (qkJ J n) s := fun s hs h => by
    have h2 := bgV_spec (J := qkJ J n) (s := s) (b := bgF (qkJ J n))
    rw [← bg_fix (qk_ok ok n) to2 hs] at h2
    rw [hld_nil ok to hs h]
    exact h2.1
  intro k
  induction k with
  | zero =>
    intro s r hs hb _
    refine base s hs ?_
    cases e : hldL J s with
    | nil => rfl
    | cons t l =>
      obtain ⟨m, hm, _⟩ := bh_next to hb (hld_in (by rw [e]; simp : t ∈ hldL J s))
      omega
  | succ k ih =>
    intro s r hs hb hn
    unfold chF at hn
    by_cases c : hldL J s = []
    · exact base s hs c
    · rw [if_neg c] at hn
      obtain ⟨h1, _⟩ := mnT_spec c
      obtain ⟨m, hm, hbt⟩ := bh_next to hb (hld_in h1)
      cases hm
      have hk := ok.nds s hs _ (hld_in h1)
      have e1 : bgF J (mnT (hldL J s)) + J.lg (mnT (hldL J s)) = bgF J s := of_decide_eq_true (List.mem_filter.mp h1).2
      have e2 := ih _ _ hk hbt hn
      have hin : mnT (hldL J s) ∈ chF J k (mnT (hldL J s)) (s :: r) := by
        have : ∀ (k : Nat) (h : Str) (r : List Str) (x : Str), x ∈ h :: r → x ∈ chF J k h r := by
          intro k
          induction k with
          | zero => intro h r x hx; exact hx
          | succ k ih =>
            intro h r x hx
            unfold chF
            by_cases c : hldL J h = []
            · rw [if_pos c]; exact hx
            · rw [if_neg c]; exact ih _ _ _ (List.mem_cons_of_mem _ hx)
        exact this _ _ _ _ (by simp)
      have hne : mnT (hldL J s) ≠ n := fun z => hn (z ▸ hin)
      have h2 := bgV_spec (J := qkJ J n) (s := s) (b := bgF (qkJ J n))
      rw [← bg_fix (qk_ok ok n) to2 hs] at h2
      have hin2 : mnT (hldL J s) ∈ J.nd s := hld_in h1
      have e3 := h2.2.1 (mnT (hldL J s)) hin2
      rw [qk_lgO hne] at e3
      omega
def lessV (J : CJ) (n o : Str) : Int := bgF J o + J.lg o - (bgF (qkJ J n) o + (qkJ J n).lg o)
theorem less_ok (ok : COk J) (ac : Ac J) {n o : Str} (hn : n ∈ J.ks) (ho : o ∈ J.ks) : (0 ≤ lessV J n o ∧ lessV J n o ≤ J.lg n) ∧ (n ∉ chL J o → lessV J n o = 0) ∧ (o = n → lessV J n o = J.lg o) := by
  have to := ordL_topo ok ac
  unfold lessV
  obtain ⟨h1, h2⟩ := qk_le (n := n) ok ac hn o ho
  by_cases c : o = n
  · subst c
    rw [qk_lgN, qk_self ok ac hn]
    have := ok.lg0 o ho
    refine ⟨by omega, fun h => absurd ?_ h, fun _ => by omega⟩
    have e : laS (chL J o) = o := (chL_ok ok ac ho).la
    have hne := (chL_ok ok ac ho).ne
    generalize chL J o = r at *
    have e2 : laS r = r.getLast hne := by unfold laS; rw [List.getLastD_eq_getLast?, List.getLast?_eq_some_getLast hne]; rfl
    have := List.getLast_mem hne
    rw [← e2, e] at this
    exact this
  · rw [qk_lgO c]
    refine ⟨by omega, fun h => ?_, fun e => absurd e c⟩
    have := qk_off (n := n) ok ac _ o [] ho (bh_all to ho) h
    omega
end

end Mi

namespace Mi
open PySem PySem.Spec L2
/-! ### k27: the rung jobs, the further need -/
def t4 : List Str := ["bat", "cod", "doe", "eel"]
def asp : Str := "asp"
def aspz : Str := "aspz"
theorem t4_so (k : Nat) : (asp :: aspz :: t4.take k).Pairwise fun a b => ltS a b = true := by
  have h : (asp :: aspz :: t4).Pairwise fun a b => ltS a b = true := by decide +kernel
  exact h.sublist (.cons₂ _ (.cons₂ _ (List.take_sublist _ _)))
theorem nmz : NmO aspz := ⟨by decide +kernel, by decide +kernel⟩
structure S27 (J : CJ) (k : Nat) : Prop where
  ok : COk J
  low : ∀ s ∈ J.ks, ∀ t ∈ J.nd s, ltS t s = true
  k4 : k ≤ 4
  ks : J.ks = asp :: t4.take k
def zJ (J : CJ) (k : Nat) : CJ where
  ks := asp :: aspz :: t4.take k
  lg := fun s => if s = aspz then 1 else J.lg s
  nd := fun s => if s = asp then [aspz] else if s = aspz then [asp] else J.nd s
  rd := fun s => if s = aspz then 0 else J.rd s
  du := fun s => if s = aspz then none else J.du s
section
variable {J : CJ} {Q : D → Prop} {s t b n : Str} {k : Nat}
theorem flat_tS {xs : List Str} (h : ∀ s ∈ xs, NmO s) : flatD 2 (.tuple (dStrs xs)) = true := by
  unfold flatD
  unfold dStrs
  rw [List.all_eq_true]
  intro x hx
  obtain ⟨s, hs, rfl⟩ := List.mem_map.mp hx
  exact flat_nm (h s hs)
theorem eq_tS {xs ys : List Str} (h : ∀ s ∈ xs, NmO s) (h' : ∀ s ∈ ys, NmO s) : eqD (.tuple (dStrs xs)) (.tuple (dStrs ys)) = some (.bool (decide (xs = ys))) := cod_str.tup.eqD (n := 2) (flat_tS h) (flat_tS h')
theorem ne_tS {xs ys : List Str} (h : ∀ s ∈ xs, NmO s) (h' : ∀ s ∈ ys, NmO s) : neD (.tuple (dStrs xs)) (.tuple (dStrs ys)) = some (.bool (!decide (xs = ys))) := cod_str.tup.neD (n := 2) (flat_tS h) (flat_tS h')
theorem S27.ac (S : S27 J k) : Ac J := ac_low S.low
theorem zs_ne (h : s ∈ t4.take k) : s ≠ asp ∧ s ≠ aspz := by
  have := t4_so k
  rw [List.pairwise_cons, List.pairwise_cons] at this
  constructor
  · rintro rfl
    have := this.1 asp (List.mem_cons_of_mem _ h)
    rw [ltS_irr] at this; cases this
  · rintro rfl
    have := this.2.1 aspz h
    rw [ltS_irr] at this; cases this
theorem S27.z_ok (S : S27 J k) : COk (zJ J k) := by
  have hk : ∀ s ∈ t4.take k, s ∈ J.ks := fun s hs => by rw [S.ks]; exact List.mem_cons_of_mem _ hs
  have ha : asp ∈ J.ks := by rw [S.ks]; simp
  have cs : ∀ s ∈ (zJ J k).ks, s = asp ∨ s = aspz ∨ (s ∈ t4.take k ∧ s ≠ asp ∧ s ≠ aspz) := fun s hs => by
    rcases List.mem_cons.mp hs with e | hs
    · exact .inl e
    rcases List.mem_cons.mp hs with e | hs
    · exact .inr (.inl e)
    · exact .inr (.inr ⟨hs, zs_ne hs⟩)
  have naz : asp ≠ aspz := by decide +kernel
  refine ⟨t4_so k, by simp [zJ], ?_, fun s hs => ?_, fun s hs => ?_, fun s hs t ht => ?_, fun s hs => ?_, fun s hs => ?_⟩
  · show (asp :: aspz :: t4.take k).length ≤ 6
    have : (t4.take k).length ≤ 4 := by rw [List.length_take]; exact Nat.min_le_right _ _
    simp only [List.length_cons]; omega
  · show 0 ≤ if s = aspz then 1 else J.lg s
    rcases cs s hs with rfl | rfl | ⟨h, h1, h2⟩
    · rw [if_neg naz]; exact S.ok.lg0 _ ha
    · rw [if_pos rfl]; omega
    · rw [if_neg h2]; exact S.ok.lg0 _ (hk _ h)
  · show 0 ≤ if s = aspz then 0 else J.rd s
    rcases cs s hs with rfl | rfl | ⟨h, h1, h2⟩
    · rw [if_neg naz]; exact S.ok.rd0 _ ha
    · rw [if_pos rfl]; omega
    · rw [if_neg h2]; exact S.ok.rd0 _ (hk _ h)
  · have ht : t ∈ if s = asp then [aspz] else if s = aspz then [asp] else J.nd s := ht
    show t ∈ asp :: aspz :: t4.take k
    rcases cs s hs with rfl | rfl | ⟨h, h1, h2⟩
    · rw [if_pos rfl] at ht; rw [List.mem_singleton.mp ht]; simp
    · rw [if_neg (fun e => naz e.symm), if_pos rfl] at ht; rw [List.mem_singleton.mp ht]; simp
    · rw [if_neg h1, if_neg h2] at ht
      have := S.ok.nds s (hk _ h) t ht
      rw [S.ks] at this
      rcases List.mem_cons.mp this with e | h
      · rw [e]; simp
      · exact List.mem_cons_of_mem _ (List.mem_cons_of_mem _ h)
  · show (if s = asp then [aspz] else if s = aspz then [asp] else J.nd s).Nodup
    rcases cs s hs with rfl | rfl | ⟨h, h1, h2⟩
    · rw [if_pos rfl]; simp
    · rw [if_neg (fun e => naz e.symm), if_pos rfl]; simp
    · rw [if_neg h1, if_neg h2]; exact S.ok.ndn _ (hk _ h)
  · rcases cs s hs with rfl | rfl | ⟨h, h1, h2⟩
    · exact S.ok.nm _ ha
    · exact nmz
    · exact S.ok.nm _ (hk _ h)
theorem S27.z_rg (S : S27 J k) : rgL (zJ J k) = some [asp, aspz] := by
  have naz : asp ≠ aspz := by decide +kernel
  refine rg_two (rest := t4.take k) rfl (by show (if asp = asp then [aspz] else if asp = aspz then [asp] else J.nd asp) = [aspz]; rw [if_pos rfl]) ?_ (by decide +kernel) fun s hs t ht => ?_
  · show (if aspz = asp then [aspz] else if aspz = aspz then [asp] else J.nd aspz) = [asp]
    rw [if_neg (fun e => naz e.symm), if_pos rfl]
  · have ht : t ∈ if s = asp then [aspz] else if s = aspz then [asp] else J.nd s := ht
    obtain ⟨h1, h2⟩ := zs_ne hs
    rw [if_neg h1, if_neg h2] at ht
    exact S.low s (by rw [S.ks]; exact List.mem_cons_of_mem _ hs) t ht
theorem S27.z_D (S : S27 J k) : joD (zJ J k) = .tuple (.tuple [.str asp, .int (J.lg asp), .tuple [.str aspz], .int (J.rd asp), dOI (J.du asp)] :: .tuple [.str aspz, .int 1, .tuple [.str asp], .int 0, .none] :: (t4.take k).map (jbD J)) := by
  have naz : asp ≠ aspz := by decide +kernel
  unfold joD
  show PyData.tuple (jbD (zJ J k) asp :: jbD (zJ J k) aspz :: (t4.take k).map (jbD (zJ J k))) = _
  have e1 : jbD (zJ J k) asp = .tuple [.str asp, .int (J.lg asp), .tuple [.str aspz], .int (J.rd asp), dOI (J.du asp)] := by
    unfold jbD zJ
    simp only [if_neg naz, if_true]
    rfl
  have e2 : jbD (zJ J k) aspz = .tuple [.str aspz, .int 1, .tuple [.str asp], .int 0, .none] := by
    unfold jbD zJ
    have nza : ¬ aspz = asp := fun e => naz e.symm
    simp only [if_neg nza, if_true]
    rfl
  rw [e1, e2]
  congr 3
  refine List.map_congr_left fun s hs => ?_
  obtain ⟨h1, h2⟩ := zs_ne hs
  unfold jbD zJ
  simp only [if_neg h1, if_neg h2]
abbrev E27 (J : CJ) (x4 x5 x6 x7 x8 x9 x10 x11 x12 x13 x14 x15 x16 x17 x18 x19 x20 x21 x22 x23 x24 : Sl) : En := [.un, .dr, .v (.list (dStrs J.ks)), .v (joD J), x4, x5, x6, x7, x8, x9, x10, x11, x12, x13, x14, x15, x16, x17, x18, x19, x20, x21, x22, x23, x24]
variable {x4 x5 x6 x7 x8 x9 x10 x11 x12 x13 x14 x15 x16 x17 x18 x19 x20 x21 x22 x23 x24 : Sl}
theorem law_20 (S : S27 J k) : t_law_20 kL (E27 J x4 x5 x6 x7 x8 x9 x10 x11 x12 x13 x14 x15 x16 x17 x18 x19 x20 x21 x22 x23 x24) := by
  have hl : (t4.take k).length ≤ 4 := by rw [List.length_take]; exact Nat.min_le_right _ _
  have hr := ring_ok (Q := fun d => d = .tuple (dStrs [asp, aspz])) S.z_ok (by rw [S.z_rg]; rfl)
  rw [S.z_D] at hr
  have eD : joD J = .tuple (jbD J asp :: (t4.take k).map (jbD J)) := by unfold joD; rw [S.ks]; rfl
  have ez : addD (.str asp) (.str (Str.ofString "z")) = some (.str aspz) := by
    have : addD (.str asp) (.str (Str.ofString "z")) = some (.str (asp ++ Str.ofString "z")) := by
      show (if asp.length + (Str.ofString "z").length ≤ sizeLine then some (PyData.str (asp ++ Str.ofString "z")) else none) = _
      rw [if_pos (by rw [sizeLine_eq]; decide +kernel)]
    rw [this, show asp ++ Str.ofString "z" = aspz from by decide +kernel]
  have a0 : ∀ xs : List D, atI (jbD J asp :: xs) 0 = some (jbD J asp) := fun xs => at_some (j := 0) rfl rfl
  have b0 : atI [PyData.str asp, PyData.int (J.lg asp), PyData.tuple (dStrs (J.nd asp)), PyData.int (J.rd asp), dOI (J.du asp)] 0 = some (.str asp) := at_some (j := 0) rfl rfl
  have b1 : atI [PyData.str asp, PyData.int (J.lg asp), PyData.tuple (dStrs (J.nd asp)), PyData.int (J.rd asp), dOI (J.du asp)] 1 = some (.int (J.lg asp)) := at_some (j := 1) rfl rfl
  have b3 : atI [PyData.str asp, PyData.int (J.lg asp), PyData.tuple (dStrs (J.nd asp)), PyData.int (J.rd asp), dOI (J.du asp)] 3 = some (.int (J.rd asp)) := at_some (j := 3) rfl rfl
  have b4 : atI [PyData.str asp, PyData.int (J.lg asp), PyData.tuple (dStrs (J.nd asp)), PyData.int (J.rd asp), dOI (J.du asp)] 4 = some (dOI (J.du asp)) := at_some (j := 4) rfl rfl
  unfold E27
  rw [eD]
  generalize t4.take k = T at *
  unfold t_law_20
  simp -implicitDefEqProofs [a0]
  rw [cut_upto (by omega), cut_from (by omega)]
  simp -implicitDefEqProofs [jbD, b0, ez]
  rw [add_tt (by simp)]
  simp -implicitDefEqProofs
  rw [add_tt (by simp; omega)]
  simp -implicitDefEqProofs
  unfold t_law_21
  simp -implicitDefEqProofs [ez, b4, cut_1]
  rw [add_tt (by simp; omega)]
  simp -implicitDefEqProofs
  unfold t_law_22
  simp -implicitDefEqProofs
  refine up_of hr ?_
  have c0 : ∀ xs : List D, atI (jbD J asp :: xs) 0 = some (jbD J asp) := fun xs => at_some (j := 0) rfl rfl
  unfold jbD at c0
  simp -implicitDefEqProofs [c0, b0, ez]
  have hz := S.z_ok.nm
  have ee := eq_tS (xs := [asp, aspz]) (ys := [asp, aspz]) (fun s hs => hz s (List.mem_of_mem_take (i := 2) hs)) (fun s hs => hz s (List.mem_of_mem_take (i := 2) hs))
  rw [show PyData.tuple [PyData.str asp, PyData.str aspz] = .tuple (dStrs [asp, aspz]) from rfl, ee]
  simp -implicitDefEqProofs [kL]
end

end Mi

namespace Mi
open PySem PySem.Spec L2
/-! ### k27: a further need -/
def mJ (J : CJ) (p q : Str) : CJ := { J with nd := fun x => if x = p then ussort (J.nd p ++ [q]) else J.nd x }
section
variable {J : CJ} {Q : D → Prop} {s t b n p q : Str} {k : Nat}
theorem mj_nd (h : t ∈ J.nd s) : t ∈ (mJ J p q).nd s := by
  show t ∈ if s = p then ussort (J.nd p ++ [q]) else J.nd s
  by_cases c : s = p
  · subst c
    rw [if_pos rfl, ussort_mem]
    exact List.mem_append_left _ h
  · rw [if_neg c]; exact h
theorem mj_in (h : t ∈ (mJ J p q).nd s) : t ∈ J.nd s ∨ (s = p ∧ t = q) := by
  have h : t ∈ if s = p then ussort (J.nd p ++ [q]) else J.nd s := h
  by_cases c : s = p
  · rw [if_pos c, ussort_mem] at h
    rcases List.mem_append.mp h with h | h
    · exact .inl (c ▸ h)
    · exact .inr ⟨c, List.mem_singleton.mp h⟩
  · rw [if_neg c] at h; exact .inl h
theorem S27.mj (S : S27 J k) (hq : q ∈ J.ks) (hlt : ltS q p = true) : S27 (mJ J p q) k := by
  refine ⟨⟨S.ok.so, S.ok.ne, S.ok.len, S.ok.lg0, S.ok.rd0, fun s hs t ht => ?_, fun s hs => ?_, S.ok.nm⟩, fun s hs t ht => ?_, S.k4, S.ks⟩
  · rcases mj_in ht with h | ⟨_, h⟩
    · exact S.ok.nds s hs t h
    · rw [h]; exact hq
  · show (if s = p then ussort (J.nd p ++ [q]) else J.nd s).Nodup
    by_cases c : s = p
    · rw [if_pos c]; exact ussort_nd _
    · rw [if_neg c]; exact S.ok.ndn s hs
  · rcases mj_in ht with h | ⟨h1, h2⟩
    · exact S.low s hs t h
    · rw [h1, h2]; exact hlt
theorem mj_D {pre post : List Str} (hk : J.ks = pre ++ p :: post) (nd : J.ks.Nodup) : joD (mJ J p q) = .tuple (pre.map (jbD J) ++ ([.tuple [.str p, .int (J.lg p), .tuple (dStrs (ussort (J.nd p ++ [q]))), .int (J.rd p), dOI (J.du p)]] ++ post.map (jbD J))) := by
  unfold joD
  show PyData.tuple (J.ks.map _) = _
  rw [hk] at nd ⊢
  rw [List.map_append, List.map_cons]
  have nd2 := List.nodup_append.mp nd
  have h1 : ∀ s ∈ pre, s ≠ p := fun s hs e => nd2.2.2 s hs p (by simp) e
  have h2 : ∀ s ∈ post, s ≠ p := fun s hs e => (List.nodup_cons.mp nd2.2.1).1 (e ▸ hs)
  have e : ∀ s, s ≠ p → jbD (mJ J p q) s = jbD J s := fun s hs => by
    unfold jbD mJ
    simp only [if_neg hs]
  rw [List.map_congr_left fun s hs => e s (h1 s hs), List.map_congr_left fun s hs => e s (h2 s hs)]
  have ep : jbD (mJ J p q) p = .tuple [.str p, .int (J.lg p), .tuple (dStrs (ussort (J.nd p ++ [q]))), .int (J.rd p), dOI (J.du p)] := by
    unfold jbD mJ
    simp only [if_true]
  rw [ep]
  rfl
theorem any_no {α : Type} (xs : List α) : anyD (.list (xs.map fun _ => .bool false)) = some (.bool false) := by
  rw [any_map]
  simp
abbrev begD (J : CJ) : Sl := .v (lkD (kvO J.ks (bgF J)))
variable {x4 x5 x6 x7 x8 x9 x10 x11 x12 x13 x14 x15 x16 x17 x18 x19 x20 x21 x22 x23 x24 : Sl}
theorem law_19 (S : S27 J k) {i : Nat} (hi : i < J.ks.length) : t_law_19 kL (E27 J (.v (.int (i : Int))) x5 x6 (begD J) x8 x9 x10 x11 x12 x13 x14 x15 x16 x17 x18 x19 x20 x21 x22 x23 x24) := by
  have hlen := S.ok.len
  have hdl : (dStrs J.ks).length = J.ks.length := List.length_map _
  unfold t_law_19
  simp -implicitDefEqProofs
  by_cases c : i = 0
  · subst c
    simp -implicitDefEqProofs only [Int.natCast_zero, Int.lt_irrefl, decide_false]
    rw [if_neg (by omega)]
    exact law_20 S
  · rw [if_pos (by omega)]
    obtain ⟨p, hp⟩ : ∃ p, J.ks[i]? = some p := ⟨J.ks[i], List.getElem?_eq_getElem hi⟩
    have hpk : p ∈ J.ks := List.mem_of_getElem? hp
    have eix : atI (J.ks.map (jbD J)) (i : Int) = some (jbD J p) := at_some (j := i) rfl (by rw [List.getElem?_map, hp]; rfl)
    have enm : atI (dStrs J.ks) (i : Int) = some (.str p) := at_some (j := i) rfl (by unfold dStrs; rw [List.getElem?_map, hp]; rfl)
    have ek : J.ks = J.ks.take i ++ p :: J.ks.drop (i + 1) := by
      obtain ⟨_, e⟩ := List.getElem?_eq_some_iff.mp hp
      rw [← e, List.getElem_cons_drop, List.take_append_drop]
    have b1 : atI [PyData.str p, PyData.int (J.lg p), PyData.tuple (dStrs (J.nd p)), PyData.int (J.rd p), dOI (J.du p)] 1 = some (.int (J.lg p)) := at_some (j := 1) rfl rfl
    have b2 : atI [PyData.str p, PyData.int (J.lg p), PyData.tuple (dStrs (J.nd p)), PyData.int (J.rd p), dOI (J.du p)] 2 = some (.tuple (dStrs (J.nd p))) := at_some (j := 2) rfl rfl
    have b3 : atI [PyData.str p, PyData.int (J.lg p), PyData.tuple (dStrs (J.nd p)), PyData.int (J.rd p), dOI (J.du p)] 3 = some (.int (J.rd p)) := at_some (j := 3) rfl rfl
    have b4 : atI [PyData.str p, PyData.int (J.lg p), PyData.tuple (dStrs (J.nd p)), PyData.int (J.rd p), dOI (J.du p)] 4 = some (dOI (J.du p)) := at_some (j := 4) rfl rfl
    have hnl := S.ok.ndl hpk
    simp -implicitDefEqProofs [joD, enm, eix, jbD, b1, b2, b3, b4]
    rw [cut_upto (by omega)]
    refine ⟨⟨by omega, by omega⟩, fun r r0 r1 => ?_⟩
    obtain ⟨j, rfl⟩ : ∃ j : Nat, r = (j : Int) := ⟨r.toNat, by omega⟩
    have hj : j < J.ks.length := by omega
    obtain ⟨q, hq⟩ : ∃ q, J.ks[j]? = some q := ⟨J.ks[j], List.getElem?_eq_getElem hj⟩
    have hqk : q ∈ J.ks := List.mem_of_getElem? hq
    have hlt : ltS q p = true := by
      obtain ⟨_, e1⟩ := List.getElem?_eq_some_iff.mp hp
      obtain ⟨_, e2⟩ := List.getElem?_eq_some_iff.mp hq
      rw [← e1, ← e2]
      exact List.pairwise_iff_getElem.mp S.ok.so j i hj hi (by omega)
    have enq : atI (dStrs J.ks) (j : Int) = some (.str q) := at_some (j := j) rfl (by unfold dStrs; rw [List.getElem?_map, hq]; rfl)
    have S' := S.mj hqk hlt
    have hD := mj_D (q := q) ek S.ok.nd
    have hss : dStrs (J.nd p) ++ [.str q] = dStrs (J.nd p ++ [q]) := by unfold dStrs; rw [List.map_append]; rfl
    have hndl : (dStrs (J.nd p)).length = (J.nd p).length := List.length_map _
    simp -implicitDefEqProofs [enq]
    rw [add_tt (by rw [hndl]; simp; omega)]
    simp -implicitDefEqProofs [hss]
    refine ⟨⟨by omega, fun s hs => ?_⟩, ?_⟩
    · have : s ∈ J.ks := by
        rcases hs with h | h
        · exact S.ok.nds p hpk s h
        · rw [h]; exact hqk
      have := (S.ok.nm s this).2
      omega
    rw [add_tt (by simp; omega)]
    simp -implicitDefEqProofs
    rw [cut_from (by omega), add_tt (by simp; omega)]
    have eD : PyData.tuple (List.take i (List.map (jbD J) J.ks) ++ PyData.tuple [PyData.str p, PyData.int (J.lg p), PyData.tuple (dStrs (ussort (J.nd p ++ [q]))), PyData.int (J.rd p), dOI (J.du p)] :: List.drop (i + 1) (List.map (jbD J) J.ks)) = joD (mJ J p q) := by
      rw [hD, ← List.map_take, ← List.map_drop]
      rfl
    simp -implicitDefEqProofs
    rw [eD]
    have h20 := fun y14 y19 y23 => law_20 (x4 := .v (.int (i : Int))) (x5 := x5) (x6 := x6) (x7 := begD J) (x8 := x8) (x9 := x9) (x10 := x10) (x11 := x11) (x12 := x12) (x13 := x13) (x14 := y14) (x15 := x15) (x16 := x16) (x17 := x17) (x18 := x18) (x19 := y19) (x20 := x20) (x21 := x21) (x22 := .v (joD (mJ J p q))) (x23 := y23) (x24 := x24) S
    have hmo := mo_bg S.ok S.ac S'.ok S'.ac rfl (fun s hs => rfl) (fun s hs => rfl) fun s hs t ht => mj_nd ht
    obtain ⟨k1, k2⟩ := pairs_kvD S.ok.nd fun s => .int (bgF (mJ J p q) s)
    unfold v_law_3
    simp -implicitDefEqProofs
    refine up_of (earliest_ok S'.ok S'.ac rfl) ?_
    have k1 : pairsOf ((mJ J p q).ks.map fun s => .tuple [.str s, .int (bgF (mJ J p q) s)]) = some (kvD J.ks fun s => .int (bgF (mJ J p q) s)) := k1
    simp -implicitDefEqProofs [k1]
    rw [k2]
    have hlt1 := late_ok (Q := fun d => d = .tuple (dStrs (J.ks.filter (lateB J)))) S.ok S.ac rfl
    have hlt2 := late_ok (Q := fun d => d = .tuple (dStrs (J.ks.filter (lateB (mJ J p q))))) S'.ok S'.ac rfl
    unfold joD at hlt1 h20
    unfold dStrs
    refine lc_all (enc := PyData.str) (f := fun _ => .bool false) J.ks _ (fun s hs R hR => ?_) ?_
    · simp -implicitDefEqProofs
      rw [kvD_get hs, kv_get hs]
      simp -implicitDefEqProofs
      rw [decide_eq_false (by have := hmo s hs; omega)]
      exact hR
    · rw [any_no]
      simp -implicitDefEqProofs
      refine up_of hlt1 ?_
      simp -implicitDefEqProofs
      unfold dStrs
      refine lc_all (enc := PyData.str) (f := fun _ => .bool false) (J.ks.filter (lateB J)) _ (fun s hs R hR => ?_) ?_
      · obtain ⟨hs1, hs2⟩ := List.mem_filter.mp hs
        simp -implicitDefEqProofs
        refine up_of hlt2 ?_
        rw [show dStrs (J.ks.filter (lateB (mJ J p q))) = dS (J.ks.filter (lateB (mJ J p q))) from rfl, nin_tS (S.ok.nm s hs1).1 fun x hx => (S.ok.nm x (List.mem_filter.mp hx).1).1]
        have hin : s ∈ J.ks.filter (lateB (mJ J p q)) := by
          refine List.mem_filter.mpr ⟨hs1, ?_⟩
          have h1 := hmo s hs1
          unfold lateB at hs2 ⊢
          show (match J.du s with | none => false | some d => decide (d < bgF (mJ J p q) s + J.lg s)) = true
          cases ed : J.du s with
          | none => rw [ed] at hs2; cases hs2
          | some d =>
            rw [ed] at hs2
            have := of_decide_eq_true hs2
            exact decide_eq_true (by omega)
        rw [decide_eq_true hin]
        exact hR
      · rw [any_no]
        simp -implicitDefEqProofs
        exact h20 _ _ _
end

end Mi

namespace Mi
open PySem PySem.Spec L2
/-! ### k27: the gain, the holding chain -/
section
variable {J : CJ} {Q : D → Prop} {s t b n p q : Str} {k : Nat}
variable {x4 x5 x6 x7 x8 x9 x10 x11 x12 x13 x14 x15 x16 x17 x18 x19 x20 x21 x22 x23 x24 : Sl}
theorem filt_eq : ∀ {ks : List Str}, ks.Nodup → s ∈ ks → (ks.filter fun x => decide (x = s)) = [s]
  | [], _, h => by cases h
  | a :: ks, nd, h => by
    rw [List.nodup_cons] at nd
    by_cases c : a = s
    · subst c
      rw [List.filter_cons_of_pos (by simp)]
      congr 1
      refine List.filter_eq_nil_iff.mpr fun x hx => ?_
      have : x ≠ a := fun e => nd.1 (e ▸ hx)
      simpa using this
    · rw [List.filter_cons_of_neg (by simpa using c)]
      refine filt_eq nd.2 ?_
      rcases List.mem_cons.mp h with e | h
      · exact absurd e.symm c
      · exact h
abbrev lgE (J : CJ) : Sl := .v (lkD (kvD J.ks fun s => .int (J.lg s)))
theorem law_18 (S : S27 J k) : t_law_18 kL (E27 J x4 x5 x6 (begD J) x8 x9 x10 x11 x12 x13 x14 x15 x16 x17 x18 x19 x20 x21 x22 x23 x24) := by
  have hlen := S.ok.len
  have hdl : (dStrs J.ks).length = J.ks.length := List.length_map _
  have hpos : 0 < J.ks.length := List.length_pos_iff.mpr S.ok.ne
  unfold t_law_18
  simp -implicitDefEqProofs [hdl]
  refine ⟨⟨by omega, by omega⟩, fun n n0 n1 => ?_⟩
  obtain ⟨i, rfl⟩ : ∃ i : Nat, n = (i : Int) := ⟨n.toNat, by omega⟩
  exact law_19 S (by omega)
theorem law_17 (S : S27 J k) {nm ot : Str} (hn : nm ∈ J.ks) (ho : ot ∈ J.ks) : t_law_17 kL (E27 J x4 x5 x6 (begD J) (lgE J) x9 (.v (.str nm)) x11 x12 x13 (.v (.str ot)) x15 x16 x17 (.v (.tuple (dStrs (chL J nm)))) x19 x20 (.v (.int (lessV J ot nm))) x22 x23 x24) := by
  obtain ⟨⟨h1, h2⟩, h3, h4⟩ := less_ok S.ok S.ac ho hn
  have hc := chL_ok S.ok S.ac hn
  have h18 := fun y4 => law_18 (x4 := y4) (x5 := x5) (x6 := x6) (x8 := lgE J) (x9 := x9) (x10 := .v (.str nm)) (x11 := x11) (x12 := x12) (x13 := x13) (x14 := .v (.str ot)) (x15 := x15) (x16 := x16) (x17 := x17) (x18 := .v (.tuple (dStrs (chL J nm)))) (x19 := x19) (x20 := x20) (x21 := .v (.int (lessV J ot nm))) (x22 := x22) (x23 := x23) (x24 := x24) S
  unfold t_law_17
  simp -implicitDefEqProofs
  refine ⟨h1, ?_⟩
  rw [kvD_get ho, kvD_get hn]
  rw [show dStrs (chL J nm) = dS (chL J nm) from rfl, nin_tS (S.ok.nm ot ho).1 fun x hx => (S.ok.nm x (hc.sub x hx)).1]
  have fin : (if nm = ot then lessV J ot nm = J.lg nm ∧ t_law_18 kL (E27 J x4 x5 x6 (begD J) (lgE J) x9 (.v (.str nm)) x11 x12 x13 (.v (.str ot)) x15 x16 x17 (.v (.tuple (dStrs (chL J nm)))) x19 x20 (.v (.int (lessV J ot nm))) x22 x23 x24) else t_law_18 kL (E27 J x4 x5 x6 (begD J) (lgE J) x9 (.v (.str nm)) x11 x12 x13 (.v (.str ot)) x15 x16 x17 (.v (.tuple (dStrs (chL J nm)))) x19 x20 (.v (.int (lessV J ot nm))) x22 x23 x24)) := by
    by_cases c : nm = ot
    · rw [if_pos c]; exact ⟨h4 c, h18 _⟩
    · rw [if_neg c]; exact h18 _
  by_cases c : ot ∈ chL J nm
  · simp -implicitDefEqProofs [decide_eq_true c]
    exact ⟨h2, fin⟩
  · simp -implicitDefEqProofs [decide_eq_false c]
    exact ⟨h2, h3 c, fin⟩
theorem law_16 (S : S27 J k) {nm ot : Str} (hn : nm ∈ J.ks) (ho : ot ∈ J.ks) : t_law_16 kL (E27 J x4 x5 x6 (begD J) (lgE J) x9 (.v (.str nm)) x11 x12 x13 (.v (.str ot)) x15 x16 x17 (.v (.tuple (dStrs (chL J nm)))) x19 x20 x21 x22 x23 x24) := by
  unfold t_law_16
  simp -implicitDefEqProofs
  refine up_of (gain_ok S.ok S.ac hn rfl) ?_
  exact law_17 S hn ho
theorem law_15 (S : S27 J k) {nm ot : Str} (hn : nm ∈ J.ks) (ho : ot ∈ J.ks) : t_law_15 kL (E27 J x4 x5 x6 (begD J) (lgE J) x9 (.v (.str nm)) x11 x12 x13 (.v (.str ot)) x15 x16 x17 (.v (.tuple (dStrs (chL J nm)))) x19 x20 x21 x22 x23 x24) := by
  have hc := chL_ok S.ok S.ac hn
  have h16 := fun y9 y19 y20 => law_16 (x4 := x4) (x5 := x5) (x6 := x6) (x9 := y9) (x11 := x11) (x12 := x12) (x13 := x13) (x15 := x15) (x16 := x16) (x17 := x17) (x19 := y19) (x20 := y20) (x21 := x21) (x22 := x22) (x23 := x23) (x24 := x24) S hn ho
  have hla : laS (chL J nm) = nm := hc.la
  have hlk := lk_zip hc.lk
  have hsub := hc.sub
  have hhd := hc.hd
  have e1 := at_hd hc.ne
  have e2 := at_la hc.ne
  rw [hla] at e2
  generalize chL J nm = r at *
  unfold t_law_15
  simp -implicitDefEqProofs [e1, e2]
  unfold dStrs at e1 ⊢
  rw [zipL_pairs]
  refine lc_all (enc := fun p : Str × Str => .tuple [.str p.1, .str p.2]) (f := fun _ => .bool false) (pairs r) _ (fun p hp R hR => ?_) ?_
  · have h1 := hsub p.1 (List.of_mem_zip hp).1
    have h2 := hsub p.2 (List.mem_of_mem_drop (List.of_mem_zip hp).2)
    have h3 := hlk p hp
    simp -implicitDefEqProofs
    rw [kv_get h1, kvD_get h1, kv_get h2]
    simp -implicitDefEqProofs [h3]
    exact hR
  · rw [any_no]
    simp -implicitDefEqProofs
    rw [kv_get hhd.1]
    simp -implicitDefEqProofs [joD]
    refine lc_map (enc := jbD J) (p := fun x => decide (x = hdS r)) (f := fun x => .int (J.rd x)) J.ks _ (fun x hx' R S h1 h2 => ?_) ?_
    · have b3 : atI [PyData.str x, PyData.int (J.lg x), PyData.tuple (dStrs (J.nd x)), PyData.int (J.rd x), dOI (J.du x)] 3 = some (.int (J.rd x)) := at_some (j := 3) rfl rfl
      simp -implicitDefEqProofs [jbD, e1, b3]
      by_cases c2 : x = hdS r
      · rw [if_pos c2]; exact h1 (by simpa using c2)
      · rw [if_neg c2]; exact h2 (by simpa using c2)
    · rw [filt_eq S.ok.nd hhd.1]
      simp -implicitDefEqProofs
      unfold E27 joD at h16
      rw [hhd.2]
      simp -implicitDefEqProofs
      exact h16 _ _ _
theorem law_14 (S : S27 J k) {nm ot : Str} (hn : nm ∈ J.ks) (ho : ot ∈ J.ks) : t_law_14 kL (E27 J x4 x5 x6 (begD J) (lgE J) x9 (.v (.str nm)) x11 x12 x13 (.v (.str ot)) x15 x16 x17 x18 x19 x20 x21 x22 x23 x24) := by
  unfold t_law_14
  simp -implicitDefEqProofs
  refine up_of (holding_ok S.ok S.ac hn rfl) ?_
  exact law_15 S hn ho
theorem law_13 (S : S27 J k) : t_law_13 kL (E27 J x4 x5 x6 (begD J) (lgE J) x9 x10 x11 x12 x13 x14 x15 x16 x17 x18 x19 x20 x21 x22 x23 x24) := by
  have hlen := S.ok.len
  have hdl : (dStrs J.ks).length = J.ks.length := List.length_map _
  have hpos : 0 < J.ks.length := List.length_pos_iff.mpr S.ok.ne
  have hnm : ∀ n : Int, 0 ≤ n → n < J.ks.length → ∃ s ∈ J.ks, atI (dStrs J.ks) n = some (.str s) := fun n n0 n1 => by
    obtain ⟨i, rfl⟩ : ∃ i : Nat, n = (i : Int) := ⟨n.toNat, by omega⟩
    have hi : i < J.ks.length := by omega
    exact ⟨J.ks[i], List.getElem_mem hi, at_some (j := i) rfl (by unfold dStrs; rw [List.getElem?_map, List.getElem?_eq_getElem hi]; rfl)⟩
  unfold t_law_13
  simp -implicitDefEqProofs [hdl]
  refine ⟨⟨by omega, by omega⟩, fun n n0 n1 => ?_⟩
  obtain ⟨nm, hn, e1⟩ := hnm n n0 n1
  rw [e1]
  simp -implicitDefEqProofs
  refine ⟨⟨by omega, by omega⟩, fun n n0 n1 => ?_⟩
  obtain ⟨ot, ho, e2⟩ := hnm n n0 n1
  rw [e2]
  simp -implicitDefEqProofs
  exact law_14 S hn ho
end

end Mi

namespace Mi
open PySem PySem.Spec L2
/-! ### k27: the latest begins -/
section
variable {J : CJ} {Q : D → Prop} {s t b n p q : Str} {k : Nat}
def lsV (J : CJ) (s : Str) : Option Int := shO (enF J s) (J.lg s)
abbrev lasD (J : CJ) : Sl := .v (lkD (kvE J.ks (lsV J)))
variable {x4 x5 x6 x7 x8 x9 x10 x11 x12 x13 x14 x15 x16 x17 x18 x19 x20 x21 x22 x23 x24 : Sl}
theorem ls_non (sp : EnSp J (enF J)) (hj : t ∈ J.ks) (hs : s ∈ J.nd t) (h : lsV J s = none) : lsV J t = none := by
  have := sp.le t hj s hs
  unfold lsV at *
  cases e : enF J s with
  | some v => rw [e] at h; cases h
  | none =>
    rw [e] at this
    cases e2 : enF J t with
    | none => rfl
    | some v => rw [e2] at this; exact this.elim
theorem ls_le (sp : EnSp J (enF J)) (hj : t ∈ J.ks) (hs : s ∈ J.nd t) {v w : Int} (h : lsV J s = some v) (h2 : lsV J t = some w) : v + J.lg s ≤ w := by
  have := sp.le t hj s hs
  unfold lsV at *
  cases e : enF J s with
  | none => rw [e] at h; cases h
  | some a =>
    cases e2 : enF J t with
    | none => rw [e2] at h2; cases h2
    | some c =>
      rw [e] at h this
      rw [e2] at h2 this
      have h : some (a - J.lg s) = some v := h
      have h2 : some (c - J.lg t) = some w := h2
      have this : a ≤ c - J.lg t := this
      cases h; cases h2
      omega
theorem ls_du (sp : EnSp J (enF J)) {d : Int} (h : J.du s = some d) : ∃ v, lsV J s = some v ∧ v + J.lg s ≤ d := by
  have := sp.du s
  unfold lsV
  rw [h] at this
  cases e : enF J s with
  | none => rw [e] at this; exact this.elim
  | some a =>
    rw [e] at this
    have this : a ≤ d := this
    exact ⟨a - J.lg s, rfl, by omega⟩
theorem ls_late (ok : COk J) (ac : Ac J) (hs : s ∈ J.ks) {v : Int} (h : lsV J s = some v) (hb : v < bgF J s) : J.ks.filter (lateB J) ≠ [] := by
  intro e
  have hno : ∀ s ∈ J.ks, lateB J s = false := fun s hs => by
    have := List.filter_eq_nil_iff.mp e s hs
    simpa using this
  have := no_late ok ac hno hs
  unfold lsV at h
  cases e2 : enF J s with
  | none => rw [e2] at h; cases h
  | some a =>
    rw [e2] at h this
    have h : some (a - J.lg s) = some v := h
    have this : bgF J s + J.lg s ≤ a := this
    cases h
    omega
abbrev E12 (J : CJ) (s : Str) (y9 x4 x6 x14 x15 x16 x18 x19 x20 x21 x22 x23 x24 : Sl) : En := [.un, .dr, .v (.list (dStrs J.ks)), .v (.tuple (J.ks.map (jbD J))), x4, .v (.tuple (dStrs (J.nd s))), x6, begD J, lgE J, y9, .v (.str s), .v (.int (J.lg s)), .v (.int (J.rd s)), .v (dOI (J.du s)), x14, x15, x16, lasD J, x18, x19, x20, x21, x22, x23, x24]
theorem law_v1 (S : S27 J k) (hs : s ∈ J.ks) {R B C : En → Prop} (hR : ∀ y9, R (E12 J s y9 x4 x6 x14 x15 x16 x18 x19 x20 x21 x22 x23 x24)) (y9 : Sl) : v_law_1 { nx := R, rt := kL.rt, bk := B, ct := C } (E12 J s y9 x4 x6 x14 x15 x16 x18 x19 x20 x21 x22 x23 x24) := by
  have to := ordL_topo S.ok S.ac
  have sp := en_sp S.ok to
  have hlt := late_ok (Q := fun d => d = .tuple (dStrs (J.ks.filter (lateB J)))) S.ok S.ac rfl
  have hnl : ∀ x ∈ J.ks.filter (lateB J), NmO x := fun x hx => S.ok.nm x (List.mem_filter.mp hx).1
  have hR := hR y9
  unfold E12 joD at *
  unfold v_law_1
  simp -implicitDefEqProofs
  rw [kvE_get hs, kv_get hs]
  have he : ∀ {v : Int}, lsV J s = some v → v < bgF J s → eqD (.tuple (dStrs (J.ks.filter (lateB J)))) (.tuple []) = some (.bool false) := fun {v} h hb => by
    have := eq_tS (ys := []) hnl (fun s hs => by cases hs)
    rw [show PyData.tuple [] = .tuple (dStrs []) from rfl, this, decide_eq_false (ls_late S.ok S.ac hs h hb)]
  cases ed : J.du s with
  | none =>
    rw [ed] at hR
    cases el : lsV J s with
    | none =>
      simp -implicitDefEqProofs [dOI]
      exact hR
    | some v =>
      simp -implicitDefEqProofs [dOI]
      by_cases c : v < bgF J s
      · rw [if_pos c]
        refine up_of hlt ?_
        rw [he el c]
        exact ⟨rfl, hR⟩
      · rw [if_neg c]
        exact hR
  | some d =>
    rw [ed] at hR
    obtain ⟨v, el, hv⟩ := ls_du sp ed
    rw [el]
    simp -implicitDefEqProofs [dOI]
    have hni : d < bgF J s + J.lg s → ninD (.str s) (.tuple (dStrs (J.ks.filter (lateB J)))) = some (.bool false) := fun c => by
      rw [show dStrs (J.ks.filter (lateB J)) = dS (J.ks.filter (lateB J)) from rfl, nin_tS (S.ok.nm s hs).1 fun x hx => (hnl x hx).1]
      have : s ∈ J.ks.filter (lateB J) := List.mem_filter.mpr ⟨hs, by unfold lateB; rw [ed]; exact decide_eq_true c⟩
      rw [decide_eq_true this]; rfl
    by_cases c2 : d < bgF J s + J.lg s
    · rw [if_pos (by omega)]
      refine up_of hlt ?_
      rw [he el (by omega), if_pos c2]
      refine ⟨rfl, ?_⟩
      refine up_of hlt ?_
      rw [hni c2]
      exact ⟨rfl, by omega, hR⟩
    · rw [if_neg c2]
      by_cases c : v < bgF J s
      · rw [if_pos c]
        refine up_of hlt ?_
        rw [he el c]
        exact ⟨rfl, hR⟩
      · rw [if_neg c]
        exact hR
theorem law_v2 (S : S27 J k) (hs : s ∈ J.ks) {R B C : En → Prop} (hR : ∀ y9, R (E12 J s y9 x4 x6 x14 x15 x16 x18 x19 x20 x21 x22 x23 x24)) (y9 : Sl) : v_law_2 { nx := R, rt := kL.rt, bk := B, ct := C } (E12 J s y9 x4 x6 x14 x15 x16 x18 x19 x20 x21 x22 x23 x24) := by
  have to := ordL_topo S.ok S.ac
  have sp := en_sp S.ok to
  have h1 := fun B y9 => law_v1 (B := B) (C := C) S hs hR y9
  unfold E12 at *
  unfold v_law_2
  simp -implicitDefEqProofs
  rw [kvE_get hs]
  cases el : lsV J s with
  | none =>
    simp -implicitDefEqProofs [dOI]
    exact h1 _ _
  | some v =>
    have hany : ∀ (y : Sl) (P : List D → Prop), P (J.ks.map fun _ => .bool false) → lcGo (gN 9) tYes' (sAndV (sOp inD (sVar 10) (sOp ixD (sVar 9) (sC (PyData.int 2)))) (sAndV (sOp isnD (sDix (sVar 17) (sOp ixD (sVar 9) (sC (PyData.int 0)))) (sC PyData.none)) (sOp gtD (sOp addD (sDix (sVar 17) (sVar 10)) (sVar 11)) (sDix (sVar 17) (sOp ixD (sVar 9) (sC (PyData.int 0))))))) (E12 J s y x4 x6 x14 x15 x16 x18 x19 x20 x21 x22 x23 x24) (J.ks.map (jbD J)) P := fun y P hP => by
      refine lc_all (enc := jbD J) (f := fun _ => .bool false) J.ks _ (fun j hj R hR => ?_) hP
      have b2 : atI [PyData.str j, PyData.int (J.lg j), PyData.tuple (dStrs (J.nd j)), PyData.int (J.rd j), dOI (J.du j)] 2 = some (.tuple (dStrs (J.nd j))) := at_some (j := 2) rfl rfl
      simp -implicitDefEqProofs [jbD, b2]
      rw [show dStrs (J.nd j) = dS (J.nd j) from rfl, in_tS (S.ok.nm s hs).1 fun x hx => (S.ok.sn hj hx).1]
      by_cases c : s ∈ J.nd j
      · rw [decide_eq_true c]
        simp -implicitDefEqProofs
        rw [kvE_get hs, kvE_get hj, el]
        cases ej : lsV J j with
        | none => simp -implicitDefEqProofs [dOI]; exact hR
        | some w =>
          have := ls_le sp hj c el ej
          simp -implicitDefEqProofs [dOI]
          rw [decide_eq_false (by omega)]
          exact hR
      · rw [decide_eq_false c]
        simp -implicitDefEqProofs
        exact hR
    unfold E12 at hany
    cases ed : J.du s with
    | none =>
      rw [ed] at hany h1
      simp -implicitDefEqProofs [dOI]
      refine hany _ _ ?_
      rw [any_no]
      simp -implicitDefEqProofs
      exact h1 _ _
    | some d =>
      rw [ed] at hany h1
      obtain ⟨v', el', hv⟩ := ls_du sp ed
      rw [el] at el'
      cases el'
      simp -implicitDefEqProofs [dOI]
      refine ⟨by omega, hany _ _ ?_⟩
      rw [any_no]
      simp -implicitDefEqProofs
      exact h1 _ _
theorem law_12 (S : S27 J k) : t_law_12 kL (E27 J x4 x5 x6 (begD J) (lgE J) x9 x10 x11 x12 x13 x14 x15 x16 (lasD J) x18 x19 x20 x21 x22 x23 x24) := by
  have to := ordL_topo S.ok S.ac
  have sp := en_sp S.ok to
  have hlt := late_ok (Q := fun d => d = .tuple (dStrs (J.ks.filter (lateB J)))) S.ok S.ac rfl
  have h13 := fun y5 y9 y10 y11 y12 y13 => law_13 (x4 := x4) (x5 := y5) (x6 := x6) (x9 := y9) (x10 := y10) (x11 := y11) (x12 := y12) (x13 := y13) (x14 := x14) (x15 := x15) (x16 := x16) (x17 := lasD J) (x18 := x18) (x19 := x19) (x20 := x20) (x21 := x21) (x22 := x22) (x23 := x23) (x24 := x24) S
  unfold E27 joD at *
  unfold t_law_12
  simp -implicitDefEqProofs
  refine for_pre (enc := jbD J) (xs := J.ks) (E := fun pre env => ∃ y5 y9 y10 y11 y12 y13, env = [.un, .dr, .v (.list (dStrs J.ks)), .v (.tuple (J.ks.map (jbD J))), x4, y5, x6, begD J, lgE J, y9, y10, y11, y12, y13, x14, x15, x16, lasD J, x18, x19, x20, x21, x22, x23, x24]) (fun pre s post env R hx he hR => ?_) (fun e he => ?_) ⟨_, _, _, _, _, _, rfl⟩
  · obtain ⟨y5, y9, y10, y11, y12, y13, rfl⟩ := he
    have hs : s ∈ J.ks := by rw [hx]; simp
    have hR := fun y9 => hR _ ⟨.v (.tuple (dStrs (J.nd s))), y9, .v (.str s), .v (.int (J.lg s)), .v (.int (J.rd s)), .v (dOI (J.du s)), rfl⟩
    have key := fun B C y9 => law_v2 (B := B) (C := C) (x4 := x4) (x6 := x6) (x14 := x14) (x15 := x15) (x16 := x16) (x18 := x18) (x19 := x19) (x20 := x20) (x21 := x21) (x22 := x22) (x23 := x23) (x24 := x24) S hs hR y9
    unfold E12 at key
    unfold l_law_3
    simp -implicitDefEqProofs [jbD]
    rw [kvE_get hs]
    cases ed : J.du s with
    | some d =>
      rw [ed] at key
      simp -implicitDefEqProofs [dOI]
      exact key _ _ _
    | none =>
      rw [ed] at key
      cases el : lsV J s with
      | some v =>
        simp -implicitDefEqProofs [dOI]
        exact key _ _ _
      | none =>
        simp -implicitDefEqProofs [dOI]
        refine lc_all (enc := jbD J) (f := fun _ => .bool false) J.ks _ (fun j hj R hR => ?_) ?_
        · have b2 : atI [PyData.str j, PyData.int (J.lg j), PyData.tuple (dStrs (J.nd j)), PyData.int (J.rd j), dOI (J.du j)] 2 = some (.tuple (dStrs (J.nd j))) := at_some (j := 2) rfl rfl
          simp -implicitDefEqProofs [jbD, b2]
          rw [show dStrs (J.nd j) = dS (J.nd j) from rfl, in_tS (S.ok.nm s hs).1 fun x hx => (S.ok.sn hj hx).1]
          by_cases c : s ∈ J.nd j
          · rw [decide_eq_true c]
            simp -implicitDefEqProofs
            rw [kvE_get hj, ls_non sp hj c el]
            simp -implicitDefEqProofs [dOI]
            exact hR
          · rw [decide_eq_false c]
            simp -implicitDefEqProofs
            exact hR
        · rw [any_no]
          simp -implicitDefEqProofs
          exact key _ _ _
  · obtain ⟨y5, y9, y10, y11, y12, y13, rfl⟩ := he
    exact h13 _ _ _ _ _ _
end

end Mi

namespace Mi
open PySem PySem.Spec L2
/-! ### k27: the great jobs, the begins, the rings, the law -/
section
variable {J : CJ} {Q : D → Prop} {s t b n p q : Str} {k : Nat}
variable {x4 x5 x6 x7 x8 x9 x10 x11 x12 x13 x14 x15 x16 x17 x18 x19 x20 x21 x22 x23 x24 : Sl}
theorem pairs_kvE {ks : List Str} (nd : ks.Nodup) (e : EO) : pairsOf (ks.map fun s => .tuple [.str s, dOI (e s)]) = some (kvE ks e) ∧ mergeG [] (kvE ks e) = kvE ks e := pairs_kvD nd fun s => dOI (e s)
theorem shp_kv (ks : List Str) (g : Str → Int) : shpK (kvD ks fun s => .int (g s)) = true := by
  unfold shpK kvD
  rw [List.all_eq_true]
  intro p hp
  obtain ⟨s, _, rfl⟩ := List.mem_map.mp hp
  rfl
theorem kdEq_kv {ks : List Str} (f g : Str → Int) (h : ∀ s ∈ ks, f s = g s) : kdEq (kvD ks fun s => .int (f s)) (kvD ks fun s => .int (g s)) = true := by
  have e : (kvD ks fun s => PyData.int (f s)) = kvD ks fun s => .int (g s) := List.map_congr_left fun s hs => by
    show ((.inr s : Key), PyData.int (f s)) = (.inr s, .int (g s))
    rw [h s hs]
  rw [e]
  unfold kdEq
  rw [Bool.and_eq_true]
  refine ⟨by simp, List.all_eq_true.mpr fun p hp => ?_⟩
  obtain ⟨s, hs, rfl⟩ := List.mem_map.mp hp
  have : getG (kvD ks fun s => PyData.int (g s)) (.inr s) = some (.int (g s)) := kvD_get hs
  show (match getG (kvD ks fun s => PyData.int (g s)) (.inr s) with | some d => PyData.eqv (.int (g s)) d | none => false) = true
  rw [this]
  show (g s == g s) = true
  simp
theorem law_11 (S : S27 J k) : t_law_11 kL (E27 J x4 x5 x6 (begD J) (lgE J) x9 x10 x11 x12 x13 x14 x15 x16 x17 x18 x19 x20 x21 x22 x23 x24) := by
  obtain ⟨u1, u2⟩ := pairs_kvE S.ok.nd (lsV J)
  unfold t_law_11
  simp -implicitDefEqProofs
  refine up_of (latest_ok S.ok S.ac rfl) ?_
  have u1 : pairsOf (J.ks.map fun s => .tuple [.str s, dOI (shO (enF J s) (J.lg s))]) = some (kvE J.ks (lsV J)) := u1
  simp -implicitDefEqProofs [u1]
  rw [u2]
  exact law_12 S
theorem law_10 (S : S27 J k) {z : Int} (hz : 0 < z) (hz4 : z ≤ 4) : t_law_10 kL (E27 J x4 x5 x6 (begD J) (lgE J) x9 x10 x11 x12 x13 x14 (.v (.int z)) (.v (joD (scJ J z))) x17 x18 x19 x20 x21 x22 x23 x24) := by
  have h11 := fun y10 => law_11 (x4 := x4) (x5 := x5) (x6 := x6) (x9 := x9) (x10 := y10) (x11 := x11) (x12 := x12) (x13 := x13) (x14 := x14) (x15 := .v (.int z)) (x16 := .v (joD (scJ J z))) (x17 := x17) (x18 := x18) (x19 := x19) (x20 := x20) (x21 := x21) (x22 := x22) (x23 := x23) (x24 := x24) S
  have ok2 : COk (scJ J z) := scj_ok S.ok (by omega)
  have ac2 : Ac (scJ J z) := S.ac
  have hsm : small z = true := by unfold small; simp; omega
  obtain ⟨k1, k2⟩ := pairs_kvD S.ok.nd fun s => .int (bgF (scJ J z) s)
  obtain ⟨l1, l2⟩ := pairs_kvD S.ok.nd fun s => .int (bgF J s * z)
  have k1 : pairsOf ((scJ J z).ks.map fun s => .tuple [.str s, .int (bgF (scJ J z) s)]) = some (kvD J.ks fun s => .int (bgF (scJ J z) s)) := k1
  have hlt1 := late_ok (Q := fun d => d = .tuple (dStrs (J.ks.filter (lateB J)))) S.ok S.ac rfl
  have hlt2 := late_ok (Q := fun d => d = .tuple (dStrs (J.ks.filter (lateB (scJ J z))))) ok2 ac2 rfl
  have hnl : ∀ x ∈ J.ks.filter (lateB J), NmO x := fun x hx => S.ok.nm x (List.mem_filter.mp hx).1
  unfold t_law_10
  simp -implicitDefEqProofs
  refine up_of (earliest_ok ok2 ac2 rfl) ?_
  simp -implicitDefEqProofs [k1]
  rw [k2]
  unfold dStrs
  refine lc_all (enc := PyData.str) (f := fun s => .tuple [.str s, .int (bgF J s * z)]) J.ks _ (fun s hs R hR => ?_) ?_
  · simp -implicitDefEqProofs
    rw [kv_get hs]
    have : mulD (.int (bgF J s)) (.int z) = some (.int (bgF J s * z)) := if_pos (.inr hsm)
    simp -implicitDefEqProofs [this]
    exact hR
  · simp -implicitDefEqProofs [l1]
    rw [l2]
    have hk := kdEq_kv (ks := J.ks) (bgF (scJ J z)) (fun s => bgF J s * z) (scj_bg S.ok S.ac (by omega))
    rw [if_pos ⟨shp_kv _ _, shp_kv _ _⟩, hk]
    have el : J.ks.filter (lateB (scJ J z)) = J.ks.filter (lateB J) := List.filter_congr fun s hs => scj_late S.ok S.ac hz hs
    rw [el] at hlt2
    simp -implicitDefEqProofs
    refine up_of hlt2 ?_
    refine up_of hlt1 ?_
    rw [ne_tS hnl hnl]
    simp -implicitDefEqProofs
    exact h11 _
theorem law_8 (S : S27 J k) : t_law_8 kL (E27 J x4 x5 x6 (begD J) (lgE J) x9 x10 x11 x12 x13 x14 x15 x16 x17 x18 x19 x20 x21 x22 x23 x24) := by
  unfold t_law_8
  simp -implicitDefEqProofs
  intro z z0 z1
  unfold t_law_9
  simp -implicitDefEqProofs
  have hsm : small (2 + z) = true := by unfold small; simp; omega
  have hm : ∀ v : Int, mulD (.int v) (.int (2 + z)) = some (.int (v * (2 + z))) := fun v => if_pos (.inr hsm)
  have h10 := fun y10 y5 y11 y12 y13 => law_10 (x4 := x4) (x5 := y5) (x6 := x6) (x9 := x9) (x10 := y10) (x11 := y11) (x12 := y12) (x13 := y13) (x14 := x14) (x17 := x17) (x18 := x18) (x19 := x19) (x20 := x20) (x21 := x21) (x22 := x22) (x23 := x23) (x24 := x24) S (z := 2 + z) (by omega) (by omega)
  unfold E27 joD at h10
  simp -implicitDefEqProofs [joD]
  refine lc_all (enc := jbD J) (f := jbD (scJ J (2 + z))) J.ks _ (fun s hs R hR => ?_) ?_
  · simp -implicitDefEqProofs [jbD]
    have e2 : jbD (scJ J (2 + z)) s = .tuple [.str s, .int (J.lg s * (2 + z)), .tuple (dStrs (J.nd s)), .int (J.rd s * (2 + z)), dOI ((J.du s).map fun d => d * (2 + z))] := rfl
    rw [e2] at hR
    simp -implicitDefEqProofs [hm]
    cases ed : J.du s with
    | none => rw [ed] at hR; simp -implicitDefEqProofs [dOI]; exact hR
    | some d => rw [ed] at hR; simp -implicitDefEqProofs [dOI, hm]; exact hR
  · exact h10 _ _ _ _ _
theorem law_6 (S : S27 J k) : t_law_6 kL (E27 J x4 x5 x6 x7 x8 x9 x10 x11 x12 x13 x14 x15 x16 x17 x18 x19 x20 x21 x22 x23 x24) := by
  have to := ordL_topo S.ok S.ac
  obtain ⟨k1, k2⟩ := pairs_kvD S.ok.nd fun s => .int (J.lg s)
  obtain ⟨l1, l2⟩ := pairs_kvD S.ok.nd fun s => .int (bgF J s)
  have h8 := fun y5 y9 y10 y11 y12 y13 y14 => law_8 (x4 := x4) (x5 := y5) (x6 := x6) (x9 := y9) (x10 := y10) (x11 := y11) (x12 := y12) (x13 := y13) (x14 := y14) (x15 := x15) (x16 := x16) (x17 := x17) (x18 := x18) (x19 := x19) (x20 := x20) (x21 := x21) (x22 := x22) (x23 := x23) (x24 := x24) S
  unfold t_law_6
  simp -implicitDefEqProofs
  refine up_of (earliest_ok S.ok S.ac rfl) ?_
  simp -implicitDefEqProofs [l1]
  rw [l2]
  unfold E27 joD at *
  simp -implicitDefEqProofs
  refine lc_all (enc := jbD J) (f := fun s => .tuple [.str s, .int (J.lg s)]) J.ks _ (fun s hs R hR => by simp -implicitDefEqProofs [jbD]; exact hR) ?_
  simp -implicitDefEqProofs [k1]
  rw [k2]
  unfold t_law_7
  simp -implicitDefEqProofs
  refine for_pre (enc := jbD J) (xs := J.ks) (E := fun pre env => ∃ y5 y10 y11 y12 y13 y14, env = [.un, .dr, .v (.list (dStrs J.ks)), .v (.tuple (J.ks.map (jbD J))), x4, y5, x6, begD J, lgE J, x9, y10, y11, y12, y13, y14, x15, x16, x17, x18, x19, x20, x21, x22, x23, x24]) (fun pre s post env R hx he hR => ?_) (fun e he => ?_) ⟨_, _, _, _, _, _, rfl⟩
  · obtain ⟨y5, y10, y11, y12, y13, y14, rfl⟩ := he
    have hs : s ∈ J.ks := by rw [hx]; simp
    have hR := fun y14 => hR _ ⟨.v (.tuple (dStrs (J.nd s))), .v (.str s), .v (.int (J.lg s)), .v (.int (J.rd s)), .v (dOI (J.du s)), y14, rfl⟩
    have hf := bgV_spec (J := J) (s := s) (b := bgF J)
    rw [← bg_fix S.ok to hs] at hf
    unfold l_law_2
    simp -implicitDefEqProofs [jbD]
    rw [kv_get hs]
    simp -implicitDefEqProofs
    refine ⟨hf.1, ?_⟩
    unfold dStrs
    refine lc_all (enc := PyData.str) (f := fun _ => .bool false) (J.nd s) _ (fun t ht R hR => ?_) ?_
    · have htk := S.ok.nds s hs t ht
      have := hf.2.1 t ht
      simp -implicitDefEqProofs
      rw [kv_get htk, kvD_get htk, kv_get hs]
      simp -implicitDefEqProofs
      rw [decide_eq_false (by omega)]
      exact hR
    · rw [any_no]
      simp -implicitDefEqProofs
      refine lc_all (enc := PyData.str) (f := fun t => .int (bgF J t + J.lg t)) (J.nd s) _ (fun t ht R hR => ?_) ?_
      · have htk := S.ok.nds s hs t ht
        simp -implicitDefEqProofs
        rw [kv_get htk, kvD_get htk]
        simp -implicitDefEqProofs
        exact hR
      · rw [dI_map]
        have hnl := S.ok.ndl hs
        have e1 : addD (.list [.int (J.rd s)]) (.list (dInts ((J.nd s).map fun t => bgF J t + J.lg t))) = some (.list (dInts (J.rd s :: (J.nd s).map fun t => bgF J t + J.lg t))) := by
          rw [add_ll (by rw [dInts_len, List.length_map]; simp; omega)]
          rfl
        rw [e1]
        simp -implicitDefEqProofs
        rw [max_dI (by simp)]
        have eb : maxL (J.rd s :: (J.nd s).map fun t => bgF J t + J.lg t) = bgF J s := (bg_fix S.ok to hs).symm
        rw [eb]
        simp -implicitDefEqProofs
        exact hR _
  · obtain ⟨y5, y10, y11, y12, y13, y14, rfl⟩ := he
    exact h8 _ _ _ _ _ _ _
theorem law_5 (S : S27 J k) : t_law_5 kL (E27 J x4 x5 x6 x7 x8 x9 x10 x11 x12 x13 x14 x15 x16 x17 x18 x19 x20 x21 x22 x23 x24) := by
  unfold t_law_5
  simp -implicitDefEqProofs
  refine up_of (ring_ok S.ok rfl) ?_
  rw [rg_none S.low]
  simp -implicitDefEqProofs
  exact law_6 S
end
theorem law_math : b_law kL (env0 25 1) := by
  have e : env0 25 1 = [.un, .dr, .un, .un, .un, .un, .un, .un, .un, .un, .un, .un, .un, .un, .un, .un, .un, .un, .un, .un, .un, .un, .un, .un, .un] := rfl
  rw [e]
  unfold b_law
  simp -implicitDefEqProofs
  intro n n0 n1
  rw [cut_upto (by omega)]
  have e5 : [PyData.str (Str.ofString "asp"), PyData.str (Str.ofString "bat"), PyData.str (Str.ofString "cod"), PyData.str (Str.ofString "doe"), PyData.str (Str.ofString "eel")] = nm5.map PyData.str := rfl
  rw [e5, ← List.map_take]
  obtain ⟨m, hm, hm1, hm5⟩ : ∃ m : Nat, (1 + n).toNat = m ∧ 1 ≤ m ∧ m ≤ 5 := ⟨_, rfl, by omega, by omega⟩
  rw [hm]
  have hnl : (nm5.take m).length = m := by rw [List.length_take]; exact Nat.min_eq_left hm5
  have hcj := fun rs => cj_ok (n := m) hm1 hm5 (rs := rs)
  have hnames : ∀ i : Nat, i < m → ∃ s, (nm5.take m)[i]? = some s := fun i hi => ⟨(nm5.take m)[i]'(by omega), List.getElem?_eq_getElem _⟩
  have h4 : nm5.take m = asp :: t4.take (m - 1) := by
    obtain ⟨m', rfl⟩ : ∃ m', m = m' + 1 := ⟨m - 1, by omega⟩
    rfl
  have hso := nm5_so m
  generalize nm5.take m = names at *
  unfold t_law_2
  simp -implicitDefEqProofs
  unfold t_law_3
  simp -implicitDefEqProofs [hnl]
  refine ⟨by omega, ?_⟩
  refine for_idx (E := fun i env => ∃ (rs : List JR) (x4 x5 x6 : Sl), rs.map (·.1) = names.take i ∧ (∀ r ∈ rs, JRok names r ∧ ∀ t ∈ r.2.2.1, ltS t r.1 = true) ∧ env = [.un, .dr, .v (.list (names.map PyData.str)), .l (rs.map jrD), x4, x5, x6, .un, .un, .un, .un, .un, .un, .un, .un, .un, .un, .un, .un, .un, .un, .un, .un, .un, .un]) (fun i d env R hd he hR => ?_) (fun en he => ?_) ⟨[], .un, .un, .un, by simp, by simp, rfl⟩
  · obtain ⟨rs, x4, x5, x6, h1, h2, rfl⟩ := he
    obtain ⟨hd', hi⟩ := rng_get hd
    rw [Int.zero_add] at hd' hi
    subst hd'
    have hi : i < m := by omega
    obtain ⟨s, hs⟩ := hnames i hi
    have hrl : rs.length = i := by rw [← List.length_map (f := (·.1)), h1, List.length_take, hnl]; omega
    unfold l_law_1
    simp -implicitDefEqProofs
    refine ⟨by omega, ?_⟩
    have er : dInts (rng 0 (i : Int)) = (List.range i).map fun j : Nat => PyData.int (j : Int) := by
      unfold dInts rng
      rw [show ((i : Int) - 0).toNat = i by omega, List.map_map]
      exact List.map_congr_left fun j _ => by show PyData.int (0 + (j : Int)) = _; rw [Int.zero_add]
    have etk : (List.range i).map (fun j => names.getD j "") = names.take i := by
      refine List.ext_getElem (by rw [List.length_map, List.length_range, List.length_take, hnl]; omega) fun j h1 h2 => ?_
      rw [List.getElem_map, List.getElem_range, List.getElem_take, List.getD_eq_getElem?_getD, List.getElem?_eq_getElem]
      rfl
    rw [er]
    refine lc_sub (enc := fun j : Nat => PyData.int (j : Int)) (f := fun j => .str (names.getD j "")) (List.range i) _ (fun j hj R S hR' hS => ?_) fun zs hz => ?_
    · have hj := List.mem_range.mp hj
      obtain ⟨x, hx⟩ := hnames j (by omega)
      have eat : atI (names.map PyData.str) (j : Int) = some (.str x) := at_some (j := j) rfl (by rw [List.getElem?_map, hx]; rfl)
      have ex : names.getD j "" = x := by rw [List.getD_eq_getElem?_getD, hx]; rfl
      rw [ex] at hR'
      simp -implicitDefEqProofs
      intro k _ _
      by_cases c3 : k = 0
      · rw [if_pos c3, eat]; exact hR'
      · rw [if_neg c3]; exact hS
    · have hsub : (zs.map fun j => names.getD j "").Sublist (names.take i) := by
        have := List.Sublist.map (fun j => names.getD j "") hz
        rw [etk] at this
        exact this
      have ez : (zs.map fun j => PyData.str (names.getD j "")) = dStrs (zs.map fun j => names.getD j "") := by unfold dStrs; rw [List.map_map]; rfl
      rw [ez]
      generalize (zs.map fun j => names.getD j "") = nd at *
      have eat : atI (names.map PyData.str) (i : Int) = some (.str s) := at_some (j := i) rfl (by rw [List.getElem?_map, hs]; rfl)
      have hlow : ∀ t ∈ nd, ltS t s = true := fun t ht => by
        have := hsub.subset ht
        obtain ⟨a, ha, e⟩ := List.mem_iff_getElem.mp this
        rw [List.getElem_take] at e
        obtain ⟨hi2, e2⟩ := List.getElem?_eq_some_iff.mp hs
        rw [← e, ← e2]
        rw [List.length_take] at ha
        exact List.pairwise_iff_getElem.mp hso a i (by omega) hi2 (by omega)
      rw [eat]
      simp -implicitDefEqProofs
      intro lg lg0 lg1 rd rd0 rd1 u u0 u1
      have fin : ∀ du : Option Int, R [.un, .dr, .v (.list (names.map PyData.str)), .l (rs.map jrD ++ [.tuple [.str s, .int (1 + lg), .tuple (dStrs nd), .int rd, dOI du]]), .v (.int (i : Int)), .v (.tuple (dStrs nd)), x6, .un, .un, .un, .un, .un, .un, .un, .un, .un, .un, .un, .un, .un, .un, .un, .un, .un, .un] := fun du => by
        refine hR _ ⟨rs ++ [(s, 1 + lg, nd, rd, du)], _, _, _, ?_, fun r hr => ?_, by rw [List.map_append]; rfl⟩
        · rw [List.map_append, h1, List.take_succ, hs]; rfl
        · rcases List.mem_append.mp hr with hr | hr
          · exact h2 r hr
          · rw [List.mem_singleton.mp hr]
            exact ⟨⟨⟨by show 1 ≤ 1 + lg; omega, by show 1 + lg ≤ 6; omega⟩, hsub.trans (List.take_sublist _ _), ⟨rd0, by show rd ≤ 8; omega⟩⟩, hlow⟩
      by_cases c : u = 0
      · rw [if_pos c]
        refine ⟨by omega, ?_⟩
        exact fin none
      · rw [if_neg c]
        intro w w0 w1
        refine ⟨by omega, ?_⟩
        exact fin (some (3 + w))
  · obtain ⟨rs, x4, x5, x6, h1, h2, rfl⟩ := he
    rw [rng_len, show ((m : Int) - 0).toNat = m by omega] at h1
    have h1 : rs.map (·.1) = names := by rw [h1, ← hnl, List.take_length]
    obtain ⟨c1, c2, c3, c4⟩ := hcj rs h1 fun r hr => (h2 r hr).1
    have nd : (rs.map (·.1)).Nodup := by rw [h1, ← c4]; exact c1.nd
    have eD := cjF_D (rs := rs) nd
    have S : S27 (cjF rs) (m - 1) := ⟨c1, fun s hs t ht => by
      obtain ⟨x, hx, rfl⟩ := List.mem_map.mp hs
      have ht : t ∈ (jrG rs x.1).2.2.1 := ht
      rw [jrG_of nd hx] at ht
      exact (h2 x hx).2 t ht, by omega, by rw [c4, h4]⟩
    unfold t_law_4
    simp -implicitDefEqProofs
    rw [← eD]
    have := law_5 (J := cjF rs) (x4 := x4) (x5 := x5) (x6 := x6) (x7 := .un) (x8 := .un) (x9 := .un) (x10 := .un) (x11 := .un) (x12 := .un) (x13 := .un) (x14 := .un) (x15 := .un) (x16 := .un) (x17 := .un) (x18 := .un) (x19 := .un) (x20 := .un) (x21 := .un) (x22 := .un) (x23 := .un) (x24 := .un) S
    unfold E27 at this
    rw [c4] at this
    exact this

end Mi

namespace Mi
open PySem PySem.Spec L2
section
set_option maxHeartbeats 0 in
theorem all_mk {l : PySem.W.OpenLaw} {w : World} {K : PySem.W.Frag} {h : Heap} {mg : Str → Option Value} {fa f0 f1 f2 f3 f4 f5 f6 f7 f8 f9 f10 f11 f12 : Addr} (X : K.In h) (G : h.Ns mainGlobals mg) (hfa : mg "law" = some (.ref fa))
    {od0 an0 od1 an1 od2 an2 od3 an3 od4 an4 od5 an5 od6 an6 od7 an7 od8 an8 od9 an9 od10 an10 od11 an11 od12 an12 : Option Addr} {sl0 sl1 sl2 sl3 sl4 sl5 sl6 sl7 sl8 sl9 sl10 sl11 sl12 : Array (Option Value)} {oc0 kV0 dc0 pm0 cd0 ct0 oc1 kV1 dc1 pm1 cd1 ct1 oc2 kV2 dc2 pm2 cd2 ct2 oc3 kV3 dc3 pm3 cd3 ct3 oc4 kV4 dc4 pm4 cd4 ct4 oc5 kV5 dc5 pm5 cd5 ct5 oc6 kV6 dc6 pm6 cd6 ct6 oc7 kV7 dc7 pm7 cd7 ct7 oc8 kV8 dc8 pm8 cd8 ct8 oc9 kV9 dc9 pm9 cd9 ct9 oc10 kV10 dc10 pm10 cd10 ct10 oc11 kV11 dc11 pm11 cd11 ct11 oc12 kV12 dc12 pm12 cd12 ct12 : Value}
    (a0 : PySem.W.nsIn K mainGlobals "_law_draw" = some (some (.ref f0))) (l0 : K.lookup f0 = some ⟨oc0, od0, .func (PySem.W.fnOf "_law_draw" "_law_draw" (defArgs sDr) (defBody sDr) (defScope sDr) .none kV0 dc0 pm0 an0 cd0 ct0), sl0⟩) (c0 : PySem.W.codeIn K cd0 "_law_draw" = true) (k0 : PySem.W.keepIn K (.ref f0) = true)
    (a1 : PySem.W.nsIn K mainGlobals "_law_next" = some (some (.ref f1))) (l1 : K.lookup f1 = some ⟨oc1, od1, .func (PySem.W.fnOf "_law_next" "_law_next" (defArgs sNx) (defBody sNx) (defScope sNx) .none kV1 dc1 pm1 an1 cd1 ct1), sl1⟩) (c1 : PySem.W.codeIn K cd1 "_law_next" = true) (k1 : PySem.W.keepIn K (.ref f1) = true)
    (a2 : PySem.W.nsIn K mainGlobals "by_name" = some (some (.ref f2))) (l2 : K.lookup f2 = some ⟨oc2, od2, .func (PySem.W.fnOf "by_name" "by_name" (defArgs s_by_name) (defBody s_by_name) (defScope s_by_name) .none kV2 dc2 pm2 an2 cd2 ct2), sl2⟩) (c2 : PySem.W.codeIn K cd2 "by_name" = true) (k2 : PySem.W.keepIn K (.ref f2) = true)
    (a3 : PySem.W.nsIn K mainGlobals "ring" = some (some (.ref f3))) (l3 : K.lookup f3 = some ⟨oc3, od3, .func (PySem.W.fnOf "ring" "ring" (defArgs s_ring) (defBody s_ring) (defScope s_ring) .none kV3 dc3 pm3 an3 cd3 ct3), sl3⟩) (c3 : PySem.W.codeIn K cd3 "ring" = true) (k3 : PySem.W.keepIn K (.ref f3) = true)
    (a4 : PySem.W.nsIn K mainGlobals "order_of" = some (some (.ref f4))) (l4 : K.lookup f4 = some ⟨oc4, od4, .func (PySem.W.fnOf "order_of" "order_of" (defArgs s_order_of) (defBody s_order_of) (defScope s_order_of) .none kV4 dc4 pm4 an4 cd4 ct4), sl4⟩) (c4 : PySem.W.codeIn K cd4 "order_of" = true) (k4 : PySem.W.keepIn K (.ref f4) = true)
    (a5 : PySem.W.nsIn K mainGlobals "begins_of" = some (some (.ref f5))) (l5 : K.lookup f5 = some ⟨oc5, od5, .func (PySem.W.fnOf "begins_of" "begins_of" (defArgs s_begins_of) (defBody s_begins_of) (defScope s_begins_of) .none kV5 dc5 pm5 an5 cd5 ct5), sl5⟩) (c5 : PySem.W.codeIn K cd5 "begins_of" = true) (k5 : PySem.W.keepIn K (.ref f5) = true)
    (a6 : PySem.W.nsIn K mainGlobals "earliest" = some (some (.ref f6))) (l6 : K.lookup f6 = some ⟨oc6, od6, .func (PySem.W.fnOf "earliest" "earliest" (defArgs s_earliest) (defBody s_earliest) (defScope s_earliest) .none kV6 dc6 pm6 an6 cd6 ct6), sl6⟩) (c6 : PySem.W.codeIn K cd6 "earliest" = true) (k6 : PySem.W.keepIn K (.ref f6) = true)
    (a7 : PySem.W.nsIn K mainGlobals "late" = some (some (.ref f7))) (l7 : K.lookup f7 = some ⟨oc7, od7, .func (PySem.W.fnOf "late" "late" (defArgs s_late) (defBody s_late) (defScope s_late) .none kV7 dc7 pm7 an7 cd7 ct7), sl7⟩) (c7 : PySem.W.codeIn K cd7 "late" = true) (k7 : PySem.W.keepIn K (.ref f7) = true)
    (a8 : PySem.W.nsIn K mainGlobals "latest" = some (some (.ref f8))) (l8 : K.lookup f8 = some ⟨oc8, od8, .func (PySem.W.fnOf "latest" "latest" (defArgs s_latest) (defBody s_latest) (defScope s_latest) .none kV8 dc8 pm8 an8 cd8 ct8), sl8⟩) (c8 : PySem.W.codeIn K cd8 "latest" = true) (k8 : PySem.W.keepIn K (.ref f8) = true)
    (a9 : PySem.W.nsIn K mainGlobals "holding_chain" = some (some (.ref f9))) (l9 : K.lookup f9 = some ⟨oc9, od9, .func (PySem.W.fnOf "holding_chain" "holding_chain" (defArgs s_holding_chain) (defBody s_holding_chain) (defScope s_holding_chain) .none kV9 dc9 pm9 an9 cd9 ct9), sl9⟩) (c9 : PySem.W.codeIn K cd9 "holding_chain" = true) (k9 : PySem.W.keepIn K (.ref f9) = true)
    (a10 : PySem.W.nsIn K mainGlobals "end_of" = some (some (.ref f10))) (l10 : K.lookup f10 = some ⟨oc10, od10, .func (PySem.W.fnOf "end_of" "end_of" (defArgs s_end_of) (defBody s_end_of) (defScope s_end_of) .none kV10 dc10 pm10 an10 cd10 ct10), sl10⟩) (c10 : PySem.W.codeIn K cd10 "end_of" = true) (k10 : PySem.W.keepIn K (.ref f10) = true)
    (a11 : PySem.W.nsIn K mainGlobals "gain" = some (some (.ref f11))) (l11 : K.lookup f11 = some ⟨oc11, od11, .func (PySem.W.fnOf "gain" "gain" (defArgs s_gain) (defBody s_gain) (defScope s_gain) .none kV11 dc11 pm11 an11 cd11 ct11), sl11⟩) (c11 : PySem.W.codeIn K cd11 "gain" = true) (k11 : PySem.W.keepIn K (.ref f11) = true)
    (a12 : PySem.W.nsIn K mainGlobals "law" = some (some (.ref f12))) (l12 : K.lookup f12 = some ⟨oc12, od12, .func (PySem.W.fnOf "law" "law" (defArgs s_law) (defBody s_law) (defScope s_law) .none kV12 dc12 pm12 an12 cd12 ct12), sl12⟩) (c12 : PySem.W.codeIn K cd12 "law" = true) (k12 : PySem.W.keepIn K (.ref f12) = true)
    (z_abs : PySem.W.nsIn K mainGlobals "abs" = some none)
    (z_all : PySem.W.nsIn K mainGlobals "all" = some none)
    (z_any : PySem.W.nsIn K mainGlobals "any" = some none)
    (z_bool : PySem.W.nsIn K mainGlobals "bool" = some none)
    (z_dict : PySem.W.nsIn K mainGlobals "dict" = some none)
    (z_int : PySem.W.nsIn K mainGlobals "int" = some none)
    (z_isinstance : PySem.W.nsIn K mainGlobals "isinstance" = some none)
    (z_len : PySem.W.nsIn K mainGlobals "len" = some none)
    (z_list : PySem.W.nsIn K mainGlobals "list" = some none)
    (z_max : PySem.W.nsIn K mainGlobals "max" = some none)
    (z_min : PySem.W.nsIn K mainGlobals "min" = some none)
    (z_range : PySem.W.nsIn K mainGlobals "range" = some none)
    (z_set : PySem.W.nsIn K mainGlobals "set" = some none)
    (z_sorted : PySem.W.nsIn K mainGlobals "sorted" = some none)
    (z_str : PySem.W.nsIn K mainGlobals "str" = some none)
    (z_tuple : PySem.W.nsIn K mainGlobals "tuple" = some none)
    (z_zip : PySem.W.nsIn K mainGlobals "zip" = some none)
    (hm : b_law kL (env0 25 1)) :
    ∃ fd : FuncData, (∀ (s : Shared) (v : Value), BindsTo s fd ⟨[v], []⟩ [("script", v)]) ∧ ∀ base : Heap, K.In base → base.Ns mainGlobals mg → FnOk l.prog w K mg base CX0 7 fa fd ["script"] (spLaw K) := by
  have e := hfa.symm.trans (PySem.W.mg_of X G a12)
  cases e
  have T : Bt ⟨K, l.prog, w⟩ mg := ⟨PySem.W.mg_none_of X G z_abs, PySem.W.mg_none_of X G z_all, PySem.W.mg_none_of X G z_any, PySem.W.mg_none_of X G z_bool, PySem.W.mg_none_of X G z_dict, PySem.W.mg_none_of X G z_int, PySem.W.mg_none_of X G z_isinstance, PySem.W.mg_none_of X G z_len, PySem.W.mg_none_of X G z_list, PySem.W.mg_none_of X G z_max, PySem.W.mg_none_of X G z_min, PySem.W.mg_none_of X G z_range, PySem.W.mg_none_of X G z_set, PySem.W.mg_none_of X G z_sorted, PySem.W.mg_none_of X G z_str, PySem.W.mg_none_of X G z_tuple, PySem.W.mg_none_of X G z_zip⟩
  have FL := fun_mk (st := s_law) l12 c12 k12
  refine ⟨PySem.W.fnOf "law" "law" (defArgs s_law) (defBody s_law) (defScope s_law) .none kV12 dc12 pm12 an12 cd12 ct12, fun s v => .of_eq rfl, fun base _ _ => ?_⟩
  have d__law_draw : Df l.prog w K mg base "_law_draw" 1 ["script"] (spDraw K) := df_mk (st := sDr) X G a0 l0 c0 k0 (fun _ _ _ _ _ _ us hl => match us, hl with | [_], _ => rfl) (fun f fd F => ok_draw F T.b_list)
  have d__law_next : Df l.prog w K mg base "_law_next" 1 ["draw", "many"] spNext := df_mk (st := sNx) X G a1 l1 c1 k1 (fun _ _ _ _ _ _ us hl => match us, hl with | [_, _], _ => rfl) (fun f fd F => ok_next F ⟨T.b_len, T.b_abs, T.b_int⟩)
  have d_by_name : Df l.prog w K mg base "by_name" 2 ["jobs"] (spOf ⟨K, l.prog, w⟩ m_by_name 1) := df_mk (st := s_by_name) X G a2 l2 c2 k2 (fun _ _ _ _ _ _ us hl => match us, hl with | [_], _ => rfl) (fun f fd F => w_by_name T  F)
  have d_ring : Df l.prog w K mg base "ring" 2 ["jobs"] (spOf ⟨K, l.prog, w⟩ m_ring 1) := df_mk (st := s_ring) X G a3 l3 c3 k3 (fun _ _ _ _ _ _ us hl => match us, hl with | [_], _ => rfl) (fun f fd F => w_ring T  F)
  have d_order_of : Df l.prog w K mg base "order_of" 3 ["jobs"] (spOf ⟨K, l.prog, w⟩ m_order_of 1) := df_mk (st := s_order_of) X G a4 l4 c4 k4 (fun _ _ _ _ _ _ us hl => match us, hl with | [_], _ => rfl) (fun f fd F => w_order_of T d_by_name F)
  have d_begins_of : Df l.prog w K mg base "begins_of" 4 ["jobs"] (spOf ⟨K, l.prog, w⟩ m_begins_of 1) := df_mk (st := s_begins_of) X G a5 l5 c5 k5 (fun _ _ _ _ _ _ us hl => match us, hl with | [_], _ => rfl) (fun f fd F => w_begins_of T d_by_name d_order_of F)
  have d_earliest : Df l.prog w K mg base "earliest" 5 ["jobs"] (spOf ⟨K, l.prog, w⟩ m_earliest 1) := df_mk (st := s_earliest) X G a6 l6 c6 k6 (fun _ _ _ _ _ _ us hl => match us, hl with | [_], _ => rfl) (fun f fd F => w_earliest T d_begins_of F)
  have d_late : Df l.prog w K mg base "late" 5 ["jobs"] (spOf ⟨K, l.prog, w⟩ m_late 1) := df_mk (st := s_late) X G a7 l7 c7 k7 (fun _ _ _ _ _ _ us hl => match us, hl with | [_], _ => rfl) (fun f fd F => w_late T d_begins_of F)
  have d_latest : Df l.prog w K mg base "latest" 4 ["jobs"] (spOf ⟨K, l.prog, w⟩ m_latest 1) := df_mk (st := s_latest) X G a8 l8 c8 k8 (fun _ _ _ _ _ _ us hl => match us, hl with | [_], _ => rfl) (fun f fd F => w_latest T d_by_name d_order_of F)
  have d_holding_chain : Df l.prog w K mg base "holding_chain" 5 ["jobs", "name"] (spOf ⟨K, l.prog, w⟩ m_holding_chain 2) := df_mk (st := s_holding_chain) X G a9 l9 c9 k9 (fun _ _ _ _ _ _ us hl => match us, hl with | [_, _], _ => rfl) (fun f fd F => w_holding_chain T d_by_name d_begins_of F)
  have d_end_of : Df l.prog w K mg base "end_of" 5 ["jobs", "name"] (spOf ⟨K, l.prog, w⟩ m_end_of 2) := df_mk (st := s_end_of) X G a10 l10 c10 k10 (fun _ _ _ _ _ _ us hl => match us, hl with | [_, _], _ => rfl) (fun f fd F => w_end_of T d_begins_of d_by_name F)
  have d_gain : Df l.prog w K mg base "gain" 6 ["jobs", "name", "other"] (spOf ⟨K, l.prog, w⟩ m_gain 3) := df_mk (st := s_gain) X G a11 l11 c11 k11 (fun _ _ _ _ _ _ us hl => match us, hl with | [_, _, _], _ => rfl) (fun f fd F => w_gain T d_end_of F)
  exact w_law T d__law_draw d__law_next d_ring d_earliest d_late d_latest d_holding_chain d_gain FL hm
end
end Mi
open PySem PySem.W
set_option maxRecDepth 100000 in
set_option maxHeartbeats 0 in
theorem PySem.Challenge.cw_jobwarden_k27_chains_that_stretch_holds : PySem.Challenge.rw_jobwarden_k27_chains_that_stretch.Holds := by
  w_on; o_law; k_head; (case hw => w_witness2)
  k_fill
  refine Mi.walk (k := 7) (l := PySem.Challenge.rw_jobwarden_k27_chains_that_stretch) ⟨rfl, by decide, by decide⟩ rfl rfl (fun w h Y => PySem.W.kIn_of Y) ?F
  case F =>
    intro w mg fa h KX G hmg
    refine' Mi.all_mk KX G hmg ?a0 ?l0 ?c0 ?k0 ?a1 ?l1 ?c1 ?k1 ?a2 ?l2 ?c2 ?k2 ?a3 ?l3 ?c3 ?k3 ?a4 ?l4 ?c4 ?k4 ?a5 ?l5 ?c5 ?k5 ?a6 ?l6 ?c6 ?k6 ?a7 ?l7 ?c7 ?k7 ?a8 ?l8 ?c8 ?k8 ?a9 ?l9 ?c9 ?k9 ?a10 ?l10 ?c10 ?k10 ?a11 ?l11 ?c11 ?k11 ?a12 ?l12 ?c12 ?k12 ?z_abs ?z_all ?z_any ?z_bool ?z_dict ?z_int ?z_isinstance ?z_len ?z_list ?z_max ?z_min ?z_range ?z_set ?z_sorted ?z_str ?z_tuple ?z_zip Mi.law_math
    (case a0 => k_is)
    (case l0 => k_is)
    (case c0 => k_is)
    (case k0 => k_is)
    (case a1 => k_is)
    (case l1 => k_is)
    (case c1 => k_is)
    (case k1 => k_is)
    (case a2 => k_is)
    (case l2 => k_is)
    (case c2 => k_is)
    (case k2 => k_is)
    (case a3 => k_is)
    (case l3 => k_is)
    (case c3 => k_is)
    (case k3 => k_is)
    (case a4 => k_is)
    (case l4 => k_is)
    (case c4 => k_is)
    (case k4 => k_is)
    (case a5 => k_is)
    (case l5 => k_is)
    (case c5 => k_is)
    (case k5 => k_is)
    (case a6 => k_is)
    (case l6 => k_is)
    (case c6 => k_is)
    (case k6 => k_is)
    (case a7 => k_is)
    (case l7 => k_is)
    (case c7 => k_is)
    (case k7 => k_is)
    (case a8 => k_is)
    (case l8 => k_is)
    (case c8 => k_is)
    (case k8 => k_is)
    (case a9 => k_is)
    (case l9 => k_is)
    (case c9 => k_is)
    (case k9 => k_is)
    (case a10 => k_is)
    (case l10 => k_is)
    (case c10 => k_is)
    (case k10 => k_is)
    (case a11 => k_is)
    (case l11 => k_is)
    (case c11 => k_is)
    (case k11 => k_is)
    (case a12 => k_is)
    (case l12 => k_is)
    (case c12 => k_is)
    (case k12 => k_is)
    (case z_abs => k_is)
    (case z_all => k_is)
    (case z_any => k_is)
    (case z_bool => k_is)
    (case z_dict => k_is)
    (case z_int => k_is)
    (case z_isinstance => k_is)
    (case z_len => k_is)
    (case z_list => k_is)
    (case z_max => k_is)
    (case z_min => k_is)
    (case z_range => k_is)
    (case z_set => k_is)
    (case z_sorted => k_is)
    (case z_str => k_is)
    (case z_tuple => k_is)
    (case z_zip => k_is)
