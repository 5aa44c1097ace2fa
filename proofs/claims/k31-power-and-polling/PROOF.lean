import PyProof.Rows.All
import Wide.All
import OpenK.AllK
import Wide.FinOn
import HandS.ForMost
import HandS.Walk
import HandS.Flow
import HandS.TupAny
import HandS.TupMul
import HandS.Conv
import HandS.Deep
import HandS.TupLe
import KE.SortData
import KE.DataCmp
import KE.KTupSum
import HandS.SortKw
import HandS.IsInst
import HandS.Style
import KE.GoesNew
import KE.GoesEnum
import KE.GoesEnumKw
import KE.GoesMore
import HandS.SortInts
import HandS.Gcd
import HandS.Strs
import HandS.SetFor
import HandS.ListItems
import HandS.DictComp
import KE.DataMinMax
import HandS.More
import PyProof.Rows.SortShellAny
import KE.DataFind
import KE.KDictPairs
import HandS.SetTxt0
import HandS.DictEq
import PySem.Challenge.RW_jobwarden_k31_power_and_polling
set_option Elab.async false
set_option linter.all false
set_option maxRecDepth 100000
namespace Mi
open PySem PySem.Spec L2

abbrev D := PyData
/-- the written part of the heap, with the program and the world: hashes of tuples ask for both -/
structure Fg where
  K : PySem.W.Frag
  P : Program
  w : World
instance : Coe Fg PySem.W.Frag := ⟨Fg.K⟩
abbrev _root_.L2.Cx.G (X : L2.Cx) : Fg := ⟨X.K, X.prog, X.w⟩
/-- what a slot holds: nothing, a value that never changes, a list or a dict of one's own, the draw -/
inductive Sl where
  | un
  | v (d : D)
  | l (xs : List D)
  | k (kvs : List (Key × D))
  | t (kvs : List (List Key × D))
  | dr
  | sc (ns : List Int)
abbrev En := List Sl
def kD : Key → D
  | .inl i => .int i
  | .inr s => .str s
def kdD (kvs : List (Key × D)) : List (D × D) := kvs.map fun p => (kD p.1, p.2)
def ktD (kvs : List (List Key × D)) : List (D × D) := kvs.map fun p => (.tuple (p.1.map kD), p.2)
/-- a dict with tuple keys, entry by entry: the key, its object, the value -/
abbrev TX := List (List Key × Addr × Value)
def TDo (P : Program) (w : World) (a : Addr) (xs : TX) : HO := .ext fun h => xs.length ≤ sizeLine ∧ (a == sysModules) = false ∧ ∃ o es ep, h.get? a = some o ∧ o.ExactDict ∧ o.data = .dict es ep ∧ es.toList = xs.map (entryOfKey (tupleKind (mixKind P w))) ∧ (xs.map (·.1)).Nodup
/-- a dict of tuple keys, as data: with a mark ahead, so that no dict of the other kind reads alike -/
def ktM (kvs : List (List Key × D)) : List (D × D) := (.none, .none) :: ktD kvs
def Sl.own : Sl → Bool
  | .l _ => true
  | .k _ => true
  | .t _ => true
  | _ => false
def Sl.dat : Sl → Option D
  | .l xs => some (.list xs)
  | .k kvs => some (.dict (kdD kvs))
  | .t kvs => some (.dict (ktM kvs))
  | _ => none
/-- a tuple that has no dict: the object is known -/
def TuO (o : Obj) : Prop := o.cls = .type "tuple" ∧ o.dict = none
def PlT (K : Fg) (F : Hp) (a : Addr) (xs : List V) : Prop :=
  (∃ o, F a = some (.frz o (.tup xs)) ∧ TuO o) ∨ ∃ (o : Obj) (its : Array Value) (n : Nat), K.K.lookup a = some o ∧ TuO o ∧ o.data = .seq its n ∧ its.size ≤ sizeLine ∧ Vals xs its.toList
theorem PlT.sq {K : Fg} {F : Hp} {a : Addr} {xs : List V} (h : PlT K F a xs) : SqT K F a xs := by
  rcases h with ⟨o, h, _⟩ | ⟨o, its, n, h1, h2, h3, h4, h5⟩
  · exact .inl (.inr ⟨o, h⟩)
  · exact .inr ⟨o, its, n, h1, h2.1, h3, h4, h5⟩
mutual
inductive Rv (K : Fg) (F : Hp) : D → V → Prop
  | non : Rv K F .none .non
  | bl (b : Bool) : Rv K F (.bool b) (.bl b)
  | int (i : Int) : Rv K F (.int i) (.int i)
  | str (s : Str) : s.length ≤ sizeLine → Rv K F (.str s) (.str s)
  | lst {a : Addr} {xs : List D} {vs : List V} : F a = some (.lst vs) → xs.length ≤ sizeLine → Rvs K F xs vs → Rv K F (.list xs) (.ref a)
  | tup {a : Addr} {xs : List D} {vs : List V} : PlT K F a vs → xs.length ≤ sizeLine → Rvs K F xs vs → Rv K F (.tuple xs) (.ref a)
  | dic {a : Addr} {kvs : List (D × D)} {kws : List (Key × V)} : Rd F a (.dK kws) → Rks K F kvs kws → Rv K F (.dict kvs) (.ref a)
  | dit {a : Addr} {kvs : List (D × D)} {kws : TX} : Rd F a (TDo K.P K.w a kws) → Rkt K F kvs kws → Rv K F (.dict ((.none, .none) :: kvs)) (.ref a)
  | dil {a : Addr} {o : Obj} {kvs : List (D × D)} {kws : List (Key × V)} : F a = some (.frz o (.dK kws)) → Rks K F kvs kws → Rv K F (.dict ((.bool true, .none) :: kvs)) (.ref a)
inductive Rvs (K : Fg) (F : Hp) : List D → List V → Prop
  | nil : Rvs K F [] []
  | cons {d : D} {ds : List D} {v : V} {vs : List V} : Rv K F d v → Rvs K F ds vs → Rvs K F (d :: ds) (v :: vs)
inductive Rks (K : Fg) (F : Hp) : List (D × D) → List (Key × V) → Prop
  | nil : Rks K F [] []
  | cons {k : Key} {d : D} {ds : List (D × D)} {v : V} {vs : List (Key × V)} : Rv K F d v → Rks K F ds vs → Rks K F ((kD k, d) :: ds) ((k, v) :: vs)
inductive Rkt (K : Fg) (F : Hp) : List (D × D) → TX → Prop
  | nil : Rkt K F [] []
  | cons {k : List Key} {d : D} {ds : List (D × D)} {b : Addr} {v : V} {u : Value} {vs : TX} : PlT K F b (k.map kV) → RelV v u → Rv K F d v → Rkt K F ds vs → Rkt K F ((.tuple (k.map kD), d) :: ds) ((k, b, u) :: vs)
end
theorem rd_mono {F F' : Hp} {a : Addr} {u : HO} (h : Same F F') (r : Rd F a u) : Rd F' a u := by
  rcases r with r | ⟨o, r⟩
  · exact .inl (h _ _ r)
  · exact .inr ⟨o, h _ _ r⟩
theorem sqL_mono {K : Fg} {F F' : Hp} {a : Addr} {xs : List V} (h : Same F F') (r : SqL K F a xs) : SqL K F' a xs := by
  rcases r with r | r
  · exact .inl (rd_mono h r)
  · exact .inr r
theorem sqT_mono {K : Fg} {F F' : Hp} {a : Addr} {xs : List V} (h : Same F F') (r : SqT K F a xs) : SqT K F' a xs := by
  rcases r with r | r
  · exact .inl (rd_mono h r)
  · exact .inr r
theorem plT_mono {K : Fg} {F F' : Hp} {a : Addr} {xs : List V} (h : Same F F') (r : PlT K F a xs) : PlT K F' a xs := by
  rcases r with ⟨o, r, t⟩ | r
  · exact .inl ⟨o, h _ _ r, t⟩
  · exact .inr r
mutual
theorem Rv.mono {K : Fg} {F F' : Hp} (h : Same F F') : ∀ {d : D} {v : V}, Rv K F d v → Rv K F' d v
  | _, _, .non => .non
  | _, _, .bl b => .bl b
  | _, _, .int i => .int i
  | _, _, .str s z => .str s z
  | _, _, .lst q z r => .lst (h _ _ q) z (Rvs.mono h r)
  | _, _, .tup q z r => .tup (plT_mono h q) z (Rvs.mono h r)
  | _, _, .dic q r => .dic (rd_mono h q) (Rks.mono h r)
  | _, _, .dit q r => .dit (rd_mono h q) (Rkt.mono h r)
  | _, _, .dil q r => .dil (h _ _ q) (Rks.mono h r)
theorem Rvs.mono {K : Fg} {F F' : Hp} (h : Same F F') : ∀ {d : List D} {v : List V}, Rvs K F d v → Rvs K F' d v
  | _, _, .nil => .nil
  | _, _, .cons a b => .cons (Rv.mono h a) (Rvs.mono h b)
theorem Rks.mono {K : Fg} {F F' : Hp} (h : Same F F') : ∀ {d : List (D × D)} {v : List (Key × V)}, Rks K F d v → Rks K F' d v
  | _, _, .nil => .nil
  | _, _, .cons a b => .cons (Rv.mono h a) (Rks.mono h b)
theorem Rkt.mono {K : Fg} {F F' : Hp} (h : Same F F') : ∀ {d : List (D × D)} {v : TX}, Rkt K F d v → Rkt K F' d v
  | _, _, .nil => .nil
  | _, _, .cons t r a b => .cons (plT_mono h t) r (Rv.mono h a) (Rkt.mono h b)
end
theorem Rvs.length {K : Fg} {F : Hp} : ∀ {d : List D} {v : List V}, Rvs K F d v → d.length = v.length
  | _, _, .nil => rfl
  | _, _, .cons _ b => congrArg (· + 1) (Rvs.length b)
theorem Rvs.append {K : Fg} {F : Hp} : ∀ {d d' : List D} {v v' : List V}, Rvs K F d v → Rvs K F d' v' → Rvs K F (d ++ d') (v ++ v')
  | _, _, _, _, .nil, q => q
  | _, _, _, _, .cons a b, q => .cons a (Rvs.append b q)
theorem Rvs.get {K : Fg} {F : Hp} : ∀ {ds : List D} {vs : List V} {i : Nat} {d : D}, Rvs K F ds vs → ds[i]? = some d → ∃ v, vs[i]? = some v ∧ Rv K F d v
  | _, _, _, _, .nil, e => by simp at e
  | _, _, 0, _, .cons r _, e => by simp at e; subst e; exact ⟨_, rfl, r⟩
  | _, _, i + 1, d, .cons _ t, e => by
    obtain ⟨u, h1, h2⟩ := Rvs.get (i := i) (d := d) t (by simpa using e)
    exact ⟨u, by simpa using h1, h2⟩
theorem Rvs.get' {K : Fg} {F : Hp} {ds : List D} {vs : List V} {i : Nat} {v : V} (r : Rvs K F ds vs) (e : vs[i]? = some v) : ∃ d, ds[i]? = some d ∧ Rv K F d v := by
  have hl := r.length
  have hi : i < ds.length := by rw [hl]; exact (List.getElem?_eq_some_iff.mp e).1
  obtain ⟨v', h1, h2⟩ := r.get (i := i) (d := ds[i]) (by simp [hi])
  rw [e] at h1; cases h1
  exact ⟨_, by simp [hi], h2⟩
theorem Rvs.take {K : Fg} {F : Hp} : ∀ {ds : List D} {vs : List V} (n : Nat), Rvs K F ds vs → Rvs K F (ds.take n) (vs.take n)
  | _, _, 0, _ => by simp only [List.take_zero]; exact .nil
  | _, _, _ + 1, .nil => .nil
  | _, _, n + 1, .cons r t => .cons r (Rvs.take n t)
theorem Rvs.drop {K : Fg} {F : Hp} : ∀ {ds : List D} {vs : List V} (n : Nat), Rvs K F ds vs → Rvs K F (ds.drop n) (vs.drop n)
  | _, _, 0, r => by simpa using r
  | _, _, _ + 1, .nil => .nil
  | _, _, n + 1, .cons _ t => Rvs.drop n t
theorem Rvs.ints {K : Fg} {F : Hp} : ∀ {ns : List Int} {vs : List V}, Rvs K F (ns.map PyData.int) vs → vs = ns.map V.int
  | [], _, r => by cases r; rfl
  | n :: ns, _, r => by
    cases r with
    | cons a b => cases a; rw [Rvs.ints b]; rfl
theorem Rvs.ofInts {K : Fg} {F : Hp} : ∀ (ns : List Int), Rvs K F (ns.map PyData.int) (ns.map V.int)
  | [] => .nil
  | n :: ns => .cons (.int n) (Rvs.ofInts ns)

/-! ### the state -/
structure Cy where
  F0 : Hp
  H0 : Hp
  dr0 : Option Addr
def DrOk (F H : Hp) (a : Addr) : Prop := ∃ (l : Addr) (ns : List Int) (p c s : Int), H a = some (.lst [.ref l, .int p, .int c, .int s]) ∧ F l = some (.lst (ns.map V.int)) ∧ 0 ≤ p ∧ 0 ≤ c ∧ 0 ≤ s ∧ s < 2147483648
theorem DrOk.mono {F F' H : Hp} {a : Addr} (h : Same F F') (d : DrOk F H a) : DrOk F' H a := by
  obtain ⟨l, ns, p, c, s, h1, h2, h3⟩ := d
  exact ⟨l, ns, p, c, s, h1, h _ _ h2, h3⟩
theorem DrOk.at {F H H' : Hp} {a : Addr} (h : H' a = H a) (d : DrOk F H a) : DrOk F H' a := by
  obtain ⟨l, ns, p, c, s, h1, h2, h3⟩ := d
  exact ⟨l, ns, p, c, s, h.trans h1, h2, h3⟩
/-- the heap's part -/
structure Rf (y : Cy) (dr : Option Addr) (F H : Hp) : Prop where
  sub : Same F H
  sup : Same y.F0 F
  new : ∀ a, F a ≠ none → y.F0 a ≠ none ∨ y.H0 a = none
  gr : ∀ a o, y.H0 a = some o → some a ≠ y.dr0 → H a = some o
  dom : ∀ a, y.H0 a ≠ none → H a ≠ none
  drw : ∀ a, dr = some a → F a = none ∧ DrOk F H a
  drs : y.dr0 = none ∨ dr = y.dr0
  drn : ∀ a, dr = some a → y.dr0 = some a ∨ y.H0 a = none
/-- one slot -/
def SlOk (K : Fg) (y : Cy) (dr : Option Addr) (F H : Hp) (o : Option V) : Sl → Prop
  | .un => True
  | .v d => ∃ v, o = some v ∧ Rv K F d v
  | .l xs => ∃ a vs, o = some (.ref a) ∧ H a = some (.lst vs) ∧ xs.length ≤ sizeLine ∧ Rvs K F xs vs ∧ F a = none ∧ y.H0 a = none ∧ some a ≠ dr
  | .k kvs => ∃ a kws, o = some (.ref a) ∧ H a = some (.dK kws) ∧ Rks K F (kdD kvs) kws ∧ F a = none ∧ y.H0 a = none ∧ some a ≠ dr
  | .t kvs => ∃ a kws, o = some (.ref a) ∧ H a = some (TDo K.P K.w a kws) ∧ Rkt K F (ktD kvs) kws ∧ F a = none ∧ y.H0 a = none ∧ some a ≠ dr
  | .dr => ∃ a, o = some (.ref a) ∧ dr = some a
  | .sc ns => ∃ a, o = some (.ref a) ∧ SqL K F a (ns.map V.int)
structure Re (K : Fg) (y : Cy) (dr : Option Addr) (F : Hp) (env : En) (σ : St) (H : Hp) : Prop where
  rf : Rf y dr F H
  len : env.length = σ.length
  slot : ∀ (i : Nat) (s : Sl) (o : Option V), env[i]? = some s → σ[i]? = some o → SlOk K y dr F H o s
  sep : ∀ (i j : Nat) (a : Addr) (s s' : Sl), env[i]? = some s → env[j]? = some s' → s.own = true → s'.own = true → σ[i]? = some (some (.ref a)) → σ[j]? = some (some (.ref a)) → i = j
theorem SlOk.there {K : Fg} {y : Cy} {dr : Option Addr} {F H : Hp} {o : Option V} {s : Sl} (h : SlOk K y dr F H o s) (w : s.own = true) : ∃ a, o = some (.ref a) ∧ H a ≠ none ∧ F a = none ∧ y.H0 a = none ∧ some a ≠ dr := by
  cases s with
  | l xs => obtain ⟨a, vs, h1, h2, _, _, h3⟩ := h; exact ⟨a, h1, by rw [h2]; simp, h3⟩
  | k xs => obtain ⟨a, vs, h1, h2, _, h3⟩ := h; exact ⟨a, h1, by rw [h2]; simp, h3⟩
  | t xs => obtain ⟨a, vs, h1, h2, _, h3⟩ := h; exact ⟨a, h1, by rw [h2]; simp, h3⟩
  | _ => cases w
/-- the slot's own object as it was, the frozen part grown -/
theorem SlOk.keep {K : Fg} {y y' : Cy} {dr : Option Addr} {F F' H H' : Hp} {o : Option V} {s : Sl} (h : SlOk K y dr F H o s) (hF : Same F F')
    (hk : ∀ a, o = some (.ref a) → s.own = true → H' a = H a ∧ F' a = none ∧ y'.H0 a = none) : SlOk K y' dr F' H' o s := by
  cases s with
  | un => trivial
  | v d => obtain ⟨v, h1, h2⟩ := h; exact ⟨v, h1, h2.mono hF⟩
  | l xs =>
    obtain ⟨a, vs, h1, h2, hz, h3, h4, h5, h6⟩ := h
    obtain ⟨k1, k2, k3⟩ := hk a h1 rfl
    exact ⟨a, vs, h1, k1.trans h2, hz, h3.mono hF, k2, k3, h6⟩
  | k xs =>
    obtain ⟨a, vs, h1, h2, h3, h4, h5, h6⟩ := h
    obtain ⟨k1, k2, k3⟩ := hk a h1 rfl
    exact ⟨a, vs, h1, k1.trans h2, h3.mono hF, k2, k3, h6⟩
  | t xs =>
    obtain ⟨a, vs, h1, h2, h3, h4, h5, h6⟩ := h
    obtain ⟨k1, k2, k3⟩ := hk a h1 rfl
    exact ⟨a, vs, h1, k1.trans h2, h3.mono hF, k2, k3, h6⟩
  | dr => exact h
  | sc ns =>
    obtain ⟨a, h1, h2⟩ := h
    exact ⟨a, h1, sqL_mono hF h2⟩
theorem Rf.trans {y : Cy} {dr dr' : Option Addr} {F F' H H' : Hp} (a : Rf y dr F H) (b : Rf ⟨F, H, dr⟩ dr' F' H') (hd : dr' = dr) : Rf y dr' F' H' := by
  subst hd
  refine ⟨b.sub, a.sup.trans b.sup, fun c hc => ?_, fun c o hc hn => ?_, fun c hc => b.dom c (a.dom c hc), b.drw, a.drs, fun c hc => a.drn c hc⟩
  · rcases b.new c hc with z | z
    · exact a.new c z
    · exact .inr (by
        cases q : y.H0 c with
        | none => rfl
        | some o => exact absurd z (a.dom c (by rw [q]; simp)))
  · refine b.gr c o (a.gr c o hc hn) fun e => ?_
    rcases a.drs with z | z
    · rcases a.drn c e.symm with z' | z'
      · rw [z] at z'; cases z'
      · rw [hc] at z'; cases z'
    · exact hn (by rw [e]; exact z)
/-- behind a call or a block: what was one's own is as it was -/
theorem Re.back {K : Fg} {y : Cy} {dr : Option Addr} {F F' H H' : Hp} {env : En} {σ : St} (a : Re K y dr F env σ H) (b : Rf ⟨F, H, dr⟩ dr F' H') : Re K y dr F' env σ H' := by
  refine ⟨a.rf.trans b rfl, a.len, fun i s o h1 h2 => (a.slot i s o h1 h2).keep b.sup fun c hc w => ?_, a.sep⟩
  obtain ⟨c', e1, e2, e3, e4, e5⟩ := (a.slot i s o h1 h2).there w
  rw [hc] at e1; cases e1
  refine ⟨?_, ?_, e4⟩
  · cases q : H c with
    | none => exact absurd q e2
    | some ob => exact b.gr c ob q e5
  · cases q : F' c with
    | none => rfl
    | some ob =>
      rcases b.new c (by rw [q]; simp) with z | z
      · exact absurd e3 z
      · exact absurd z e2
theorem Rf.refl {dr : Option Addr} {y : Cy} {F H : Hp} (a : Rf y dr F H) : Rf ⟨F, H, dr⟩ dr F H :=
  ⟨a.sub, Same.refl _, fun c hc => .inl hc, fun c o h _ => h, fun c h => h, a.drw, .inr rfl, fun c h => .inl h⟩
/-- a new object that never changes -/
theorem Rf.laid {y : Cy} {dr : Option Addr} {F H : Hp} {p : Addr} {o : HO} (a : Rf y dr F H) (hp : H p = none) : Rf y dr (upd F p o) (upd H p o) := by
  have hF : F p = none := a.sub.free hp
  have hF0 : y.F0 p = none := a.sup.free hF
  have hH0 : y.H0 p = none := by
    cases q : y.H0 p with
    | none => rfl
    | some u => exact absurd hp (a.dom p (by rw [q]; simp))
  have sF : Same F (upd F p o) := fun b u e => by rw [upd_ne (ne_of_none e hF)]; exact e
  have sH : Same H (upd H p o) := fun b u e => by rw [upd_ne (ne_of_none e hp)]; exact e
  refine ⟨fun b u e => ?_, a.sup.trans sF, fun b hb => ?_, fun b u e n => sH _ _ (a.gr b u e n), fun b hb => ?_, fun b hb => ?_, a.drs, a.drn⟩
  · by_cases hb : b = p
    · subst hb; rw [upd_same] at e ⊢; exact e
    · rw [upd_ne hb] at e ⊢; exact a.sub _ _ e
  · by_cases hbp : b = p
    · subst hbp; exact .inr hH0
    · rw [upd_ne hbp] at hb; exact a.new b hb
  · cases q : H b with
    | none => exact absurd q (a.dom b hb)
    | some u => rw [sH _ _ q]; simp
  · obtain ⟨h1, h2⟩ := a.drw b hb
    have hbp : b ≠ p := by
      rintro rfl
      obtain ⟨_, _, _, _, _, q, _⟩ := h2
      rw [hp] at q; cases q
    exact ⟨by rw [upd_ne hbp]; exact h1, (h2.mono sF).at (upd_ne hbp)⟩
theorem upd_grow {F : Hp} {p : Addr} {o : HO} (h : F p = none) : Same F (upd F p o) := fun b u e => by rw [upd_ne (ne_of_none e h)]; exact e
theorem Re.laid {K : Fg} {y : Cy} {dr : Option Addr} {F H : Hp} {env : En} {σ : St} {p : Addr} {o : HO} (a : Re K y dr F env σ H) (hp : H p = none) : Re K y dr (upd F p o) env σ (upd H p o) :=
  a.back ((a.rf.refl).laid hp)
theorem Re.nF {K : Fg} {y : Cy} {dr : Option Addr} {F H : Hp} {env : En} {σ : St} {p : Addr} (a : Re K y dr F env σ H) (hp : H p = none) : F p = none := a.rf.sub.free hp
/-- a new object that is not known to be frozen: the heap grew -/
theorem Rf.grown {y : Cy} {dr : Option Addr} {F H : Hp} {p : Addr} {o : HO} (a : Rf y dr F H) (hp : H p = none) : Rf y dr F (upd H p o) := by
  have sH : Same H (upd H p o) := upd_grow hp
  refine ⟨a.sub.trans sH, a.sup, a.new, fun b u e n => sH _ _ (a.gr b u e n), fun b hb => ?_, fun b hb => ?_, a.drs, a.drn⟩
  · cases q : H b with
    | none => exact absurd q (a.dom b hb)
    | some u => rw [sH _ _ q]; simp
  · obtain ⟨h1, h2⟩ := a.drw b hb
    have hbp : b ≠ p := by
      rintro rfl
      obtain ⟨_, _, _, _, _, q, _⟩ := h2
      rw [hp] at q; cases q
    exact ⟨h1, h2.at (upd_ne hbp)⟩
theorem Re.grown {K : Fg} {y : Cy} {dr : Option Addr} {F H : Hp} {env : En} {σ : St} {p : Addr} {o : HO} (a : Re K y dr F env σ H) (hp : H p = none) : Re K y dr F env σ (upd H p o) :=
  a.back ((a.rf.refl).grown hp)

/-! ### the judgements -/
abbrev SE := En → (D → Prop) → Prop
abbrev SB := En → (Bool → Prop) → Prop
abbrev SI := En → (List D → Prop) → Prop
abbrev SA := En → (List D → Prop) → Prop
abbrev SG := D → En → (En → Prop) → Prop
structure Ks where
  nx : En → Prop
  rt : D → Prop
  bk : En → Prop := fun _ => False
  ct : En → Prop := fun _ => False
abbrev SS := Ks → En → Prop
/-- an expression was evaluated: the frozen part grew, all that was tracked but the draw stands -/
structure Ex (dr : Option Addr) (F H F' H' : Hp) : Prop where
  f : Same F F'
  k : ∀ a o, H a = some o → some a ≠ dr → H' a = some o
theorem Ex.refl {dr : Option Addr} {F H : Hp} : Ex dr F H F H := ⟨Same.refl _, fun _ _ h _ => h⟩
theorem Ex.trans {dr : Option Addr} {F H F1 H1 F2 H2 : Hp} (a : Ex dr F H F1 H1) (b : Ex dr F1 H1 F2 H2) : Ex dr F H F2 H2 := ⟨a.f.trans b.f, fun c o h n => b.k c o (a.k c o h n) n⟩
theorem Ex.fz {dr : Option Addr} {F H : Hp} {p : Addr} {o : HO} (h : F p = none) : Ex dr F H (upd F p o) H := ⟨upd_grow h, fun _ _ h _ => h⟩
theorem Ex.grown {dr : Option Addr} {F H : Hp} {p : Addr} {o : HO} (h : H p = none) : Ex dr F H F (upd H p o) := ⟨Same.refl _, fun c u e _ => by rw [upd_ne (ne_of_none e h)]; exact e⟩
theorem Re.ex {K : Fg} {y : Cy} {dr : Option Addr} {F H : Hp} {env : En} {σ : L2.St} {p : Addr} {o : HO} (a : Re K y dr F env σ H) (hp : H p = none) : Ex dr F H (upd F p o) (upd H p o) :=
  ⟨upd_grow (a.nF hp), fun c u e _ => by rw [upd_ne (ne_of_none e hp)]; exact e⟩
/-- a value, or (b) an own object of a slot, read -/
def Vr (K : Fg) (b : Bool) (F : Hp) (env : En) (σ : St) (d : D) (v : V) : Prop :=
  Rv K F d v ∨ (b = true ∧ ∃ (i : Nat) (s : Sl), env[i]? = some s ∧ s.dat = some d ∧ σ[i]? = some (some v))
theorem Vr.mono {K : Fg} {b : Bool} {dr : Option Addr} {F F' H H' : Hp} {env : En} {σ : St} {d : D} {v : V} (h : Ex dr F H F' H') (r : Vr K b F env σ d v) : Vr K b F' env σ d v := by
  rcases r with r | r
  · exact .inl (r.mono h.f)
  · exact .inr r
theorem Vr.rv {K : Fg} {F : Hp} {env : En} {σ : St} {d : D} {v : V} (r : Vr K false F env σ d v) : Rv K F d v := by
  rcases r with r | ⟨z, _⟩
  · exact r
  · cases z
def lE (K : Fg) (b : Bool) (m : SE) : TE := fun σ H Q => ∃ y dr F env, Re K y dr F env σ H ∧ m env fun d => ∀ v H' F', Re K y dr F' env σ H' → Ex dr F H F' H' → Vr K b F' env σ d v → Q v H'
def lT (K : Fg) (m : SB) : TT := fun σ H Q => ∃ y dr F env, Re K y dr F env σ H ∧ m env fun b => ∀ H' F', Re K y dr F' env σ H' → Ex dr F H F' H' → Q b H'
def lA (K : Fg) (b : Bool) (m : SA) : TA := fun σ H Q => ∃ y dr F env, Re K y dr F env σ H ∧ m env fun ds => ∀ vs H' F', Re K y dr F' env σ H' → Ex dr F H F' H' → Paired (Vr K b F' env σ) ds vs → Q vs H'
end Mi

namespace Mi
open PySem PySem.Spec L2
structure ME (X : Cx) (b : Bool) (e : Expr) (m : SE) : Prop where
  run : PE X e (lE X.G b m)
  mono : ∀ env (P Q : D → Prop), (∀ d, P d → Q d) → m env P → m env Q
structure MT (X : Cx) (e : Expr) (m : SB) : Prop where
  run : PT X e (lT X.G m)
  mono : ∀ env (P Q : Bool → Prop), (∀ d, P d → Q d) → m env P → m env Q
structure MA (X : Cx) (b : Bool) (es : List Expr) (m : SA) : Prop where
  run : PA X es (lA X.G b m)
  mono : ∀ env (P Q : List D → Prop), (∀ d, P d → Q d) → m env P → m env Q
  len : ∀ env (P : List D → Prop), m env P → m env fun ds => ds.length = es.length ∧ P ds
section
variable {X : Cx} {b : Bool}
theorem ME.up {e : Expr} {m : SE} (h : ME X false e m) : ME X b e m := ⟨⟨fun pins s σ H Q I hq => h.run.run pins s σ H Q I (by
    obtain ⟨y, dr, F, env, re, hm⟩ := hq
    exact ⟨y, dr, F, env, re, h.mono _ _ _ (fun d k v H' F' r1 s1 v1 => k v H' F' r1 s1 (.inl v1.rv)) hm⟩)⟩, h.mono⟩
/-! ### names, constants -/
def gv (env : En) (i : Nat) : Sl := env.getD i .un
def sVar (i : Nat) : SE := fun env Q => match gv env i with
  | .v d => Q d
  | _ => False
/-- an own list or dict, read -/
def sBor (i : Nat) : SE := fun env Q => match gv env i with
  | .v d => Q d
  | .l xs => Q (.list xs)
  | .k kvs => Q (.dict (kdD kvs))
  | .t kvs => Q (.dict (ktM kvs))
  | _ => False
theorem gv_some {env : En} {i : Nat} {s : Sl} (h : gv env i = s) (hs : s ≠ .un) : env[i]? = some s := by
  unfold gv at h
  rw [List.getD_eq_getElem?_getD] at h
  cases q : env[i]? with
  | none => rw [q] at h; exact absurd h.symm hs
  | some u => rw [q] at h; simpa using h
theorem Re.get {K : Fg} {y : Cy} {dr : Option Addr} {F H : Hp} {env : En} {σ : St} {i : Nat} {s : Sl} (re : Re K y dr F env σ H) (h : env[i]? = some s) : ∃ o, σ[i]? = some o ∧ SlOk K y dr F H o s := by
  have hi : i < env.length := (List.getElem?_eq_some_iff.mp h).1
  have hj : i < σ.length := by rw [← re.len]; exact hi
  exact ⟨σ[i], by simp [hj], re.slot i s _ h (by simp [hj])⟩
theorem me_var {i : Nat} {e : Expr} (h : PE X e (tVar i)) : ME X b e (sVar i) := by
  refine ⟨⟨fun pins s σ H Q I hq => h.run pins s σ H Q I ?_⟩, fun env P Q k hp => ?_⟩
  · obtain ⟨y, dr, F, env, re, hm⟩ := hq
    unfold sVar at hm
    split at hm
    · rename_i d hd
      obtain ⟨o, e1, v, e2, r⟩ := re.get (gv_some hd (by simp))
      subst e2
      exact ⟨v, e1, hm v H F re Ex.refl (.inl r)⟩
    · exact hm.elim
  · unfold sVar at hp ⊢
    split at hp
    · exact k _ hp
    · exact hp
theorem dat_of {env : En} {i : Nat} {P : D → Prop} (h : sBor i env P) : ∃ s d, env[i]? = some s ∧ P d ∧ (s = .v d ∨ s.dat = some d) := by
  unfold sBor at h
  split at h
  · rename_i d hd
    exact ⟨_, d, gv_some hd (by simp), h, .inl rfl⟩
  · rename_i d hd
    exact ⟨_, _, gv_some hd (by simp), h, .inr rfl⟩
  · rename_i d hd
    exact ⟨_, _, gv_some hd (by simp), h, .inr rfl⟩
  · rename_i d hd
    exact ⟨_, _, gv_some hd (by simp), h, .inr rfl⟩
  · exact h.elim
theorem sBor_mono {i : Nat} (env : En) (P Q : D → Prop) (k : ∀ d, P d → Q d) (h : sBor i env P) : sBor i env Q := by
  unfold sBor at h ⊢
  split at h
  all_goals first | exact k _ h | exact h
theorem me_bor {i : Nat} {e : Expr} (h : PE X e (tVar i)) : ME X true e (sBor i) := by
  refine ⟨⟨fun pins s σ H Q I hq => h.run pins s σ H Q I ?_⟩, sBor_mono⟩
  obtain ⟨y, dr, F, env, re, hm⟩ := hq
  obtain ⟨s, d, e1, hp, hs⟩ := dat_of hm
  rcases hs with rfl | hs
  · obtain ⟨o, e1, v, e2, r⟩ := re.get e1
    subst e2
    exact ⟨v, e1, hp v H F re Ex.refl (.inl r)⟩
  · obtain ⟨o, e2, r⟩ := re.get e1
    have hw : s.own = true := by cases s <;> first | rfl | cases hs
    obtain ⟨a, ea, _⟩ := r.there hw
    subst ea
    exact ⟨.ref a, e2, hp _ H F re Ex.refl (.inr ⟨rfl, i, s, e1, hs, e2⟩)⟩
def sC (d : D) : SE := fun _ Q => Q d
theorem me_con {e : Expr} {d : D} {v : V} (h : PE X e (tC v)) (r : ∀ F, Rv X.G F d v) : ME X b e (sC d) := by
  refine ⟨⟨fun pins s σ H Q I hq => h.run pins s σ H Q I ?_⟩, fun env P Q k hp => k _ hp⟩
  obtain ⟨y, dr, F, env, re, hm⟩ := hq
  exact hm v H F re Ex.refl (.inl (r F))
theorem me_int {i : Int} {j pos} : ME X b (.Constant (.int i) j pos) (sC (.int i)) := me_con pe_int fun _ => .int i
theorem me_bl {c : Bool} {j pos} : ME X b (.Constant (.bool c) j pos) (sC (.bool c)) := me_con pe_bl fun _ => .bl c
theorem me_non {j pos} : ME X b (.Constant .none j pos) (sC .none) := me_con pe_non fun _ => .non
theorem me_str {x : Str} {j pos} (h : x.length ≤ sizeLine := by decide) : ME X b (.Constant (.str x) j pos) (sC (.str x)) := me_con pe_str fun _ => .str x h
/-! ### two operands -/
def ob (o : Option D) (Q : D → Prop) : Prop := match o with
  | some d => Q d
  | none => False
def sOp (f : D → D → Option D) (a c : SE) : SE := fun env Q => a env fun x => c env fun z => ob (f x z) Q
def Ok2 (X : Cx) (b : Bool) (f : D → D → Option D) (r : R2) : Prop := ∀ (y : Cy) (dr : Option Addr) (F : Hp) (env : En) (σ : St) (H : Hp) (d1 d2 d : D) (v1 v2 : V) (Q : VK), Re X.G y dr F env σ H → Vr X.G b F env σ d1 v1 → Vr X.G b F env σ d2 v2 → f d1 d2 = some d →
  (∀ v H' F', Re X.G y dr F' env σ H' → Ex dr F H F' H' → Rv X.G F' d v → Q v H') → r v1 v2 H Q
theorem ob_mono {o : Option D} {P Q : D → Prop} (k : ∀ d, P d → Q d) (h : ob o P) : ob o Q := by
  cases o with
  | none => exact h
  | some d => exact k d h
theorem op_red {b' : Bool} {f : D → D → Option D} {r : R2} {a c : Expr} {ma mc : SE} (ok : Ok2 X b f r) (ha : ME X b a ma) (hc : ME X b c mc) {σ : St} {H : Hp} {Q : VK} (h : lE X.G b' (sOp f ma mc) σ H Q) : tOp r (lE X.G b ma) (lE X.G b mc) σ H Q := by
  obtain ⟨y, dr, F, env, re, hm⟩ := h
  refine ⟨y, dr, F, env, re, ha.mono _ _ _ (fun d1 h1 v1 H1 F1 r1 s1 w1 => ?_) hm⟩
  refine ⟨y, dr, F1, env, r1, hc.mono _ _ _ (fun d2 h2 v2 H2 F2 r2 s2 w2 => ?_) h1⟩
  cases q : f d1 d2 with
  | none => rw [q] at h2; exact h2.elim
  | some d =>
    rw [q] at h2
    exact ok y dr F2 env σ H2 d1 d2 d v1 v2 Q r2 (w1.mono s2) w2 q fun v H' F' r3 s3 w3 => h2 v H' F' r3 ((s1.trans s2).trans s3) (.inl w3)
theorem op_mono {f : D → D → Option D} {a c : Expr} {ma mc : SE} (ha : ME X b a ma) (hc : ME X b c mc) (env : En) (P Q : D → Prop) (k : ∀ d, P d → Q d) (h : sOp f ma mc env P) : sOp f ma mc env Q :=
  ha.mono _ _ _ (fun _ h1 => hc.mono _ _ _ (fun _ h2 => ob_mono k h2) h1) h
theorem me_op {b' : Bool} {op : Operator} {f : D → D → Option D} {r : R2} {a c : Expr} {pos : Pos} {ma mc : SE} (ho : OpR X (binaryOp op) r) (ok : Ok2 X b f r) (ha : ME X b a ma) (hc : ME X b c mc) : ME X b' (.BinOp a op c pos) (sOp f ma mc) :=
  ⟨⟨fun pins s σ H Q I h => (pe_op ho ha.run hc.run).run pins s σ H Q I (op_red ok ha hc h)⟩, op_mono ha hc⟩
theorem me_cmp {b' : Bool} {op : CmpOp} {f : D → D → Option D} {r : R2} {a c : Expr} {pos : Pos} {ma mc : SE} (ho : OpR X (compareOp op) r) (ok : Ok2 X b f r) (hm : behindInMarks op c = false) (ha : ME X b a ma) (hc : ME X b c mc) : ME X b' (.Compare a [op] [c] pos) (sOp f ma mc) :=
  ⟨⟨fun pins s σ H Q I h => (pe_cmpR ho ha.run hc.run hm).run pins s σ H Q I (op_red ok ha hc h)⟩, op_mono ha hc⟩
/-- a bool as a test -/
def sTB (m : SE) : SB := fun env Q => m env fun d => match d with
  | .bool c => Q c
  | _ => False
theorem tb_mono {e : Expr} {m : SE} (h : ME X b e m) (env : En) (P Q : Bool → Prop) (k : ∀ d, P d → Q d) (hp : sTB m env P) : sTB m env Q :=
  h.mono _ _ _ (fun d hd => by cases d <;> first | exact k _ hd | exact hd) hp
theorem tb_red {m : SE} {σ : St} {H : Hp} {Q : Bool → Hp → Prop} (mono : ∀ env (P Q : D → Prop), (∀ d, P d → Q d) → m env P → m env Q) (h : lT X.G (sTB m) σ H Q) : lE X.G false m σ H (fun x H' => ∃ k, x = .bl k ∧ Q k H') := by
  obtain ⟨y, dr, F, env, re, hm⟩ := h
  refine ⟨y, dr, F, env, re, mono _ _ _ (fun d hd v H' F' r1 s1 w => ?_) hm⟩
  cases d with
  | bool c =>
    cases w.rv
    exact ⟨c, rfl, hd H' F' r1 s1⟩
  | _ => exact hd.elim
theorem mt_cmp {op : CmpOp} {f : D → D → Option D} {r : R2} {a c : Expr} {pos : Pos} {ma mc : SE} (ho : OpR X (compareOp op) r) (ok : Ok2 X b f r) (hm : behindInMarks op c = false) (ha : ME X b a ma) (hc : ME X b c mc) : MT X (.Compare a [op] [c] pos) (sTB (sOp f ma mc)) :=
  ⟨⟨fun pins s σ H Q I h => (pt_cmpR ho ha.run hc.run hm).run pins s σ H Q I (op_red ok ha hc (tb_red (op_mono ha hc) h))⟩, tb_mono (me_cmp (b' := b) (pos := pos) ho ok hm ha hc)⟩
/-- a call whose value is a bool, as a test -/
theorem mt_val {e : Expr} {m : SE} (h : ME X false e m) (he : ∀ whole, isTrue e X.env whole = (do let v ← whole; standAt e.pos; holding [v] (truthy v)) := by intro _; rfl) : MT X e (sTB m) :=
  ⟨⟨fun pins s σ H Q I hq => (pt_val h.run he).run pins s σ H Q I (by
    obtain h2 := tb_red h.mono hq
    exact h2)⟩, tb_mono h⟩
end
end Mi

namespace Mi
open PySem PySem.Spec L2 PyProof.Rows
/-! ### tuples are laid as known objects -/
/-- the new tuple's object -/
def nT (us : List Value) : Obj := { cls := .type "tuple", data := .seq us.toArray }
theorem nT_TuO (us : List Value) : TuO (nT us) := ⟨rfl, rfl⟩
/-- what follows a new tuple -/
def NewT (xs : List V) (H : Hp) (Q : VK) : Prop := ∀ p o, TuO o → H p = none → Q (.ref p) (upd H p (.frz o (.tup xs)))
section
variable {X : Cx} {pins : List (Addr × Obj)} {σ : L2.St} {H : Hp} {s : Shared} {h' : Heap} {tk : Nat} {xs : List V} {us : List Value} {Q : VK}
theorem okT (r : Vals xs us) (hz : xs.length ≤ sizeLine) {a : Addr} {H2 : Hp} {h2 : Heap} (e : h2.get? a = some (nT us)) : ObjOk X.prog X.w H2 h2 a (.frz (nT us) (.tup xs)) := ⟨e, hz, us, r, ⟨_, e, rfl, _, rfl⟩⟩
/-- a tuple at the heap's end -/
theorem laidT (I : Inv X pins σ H { s with heap := h', toks := tk }) (r : Vals xs us) (hz : xs.length ≤ sizeLine) (q : NewT xs H Q) : EP X pins σ Q (.ref h'.objs.size) { s with heap := h'.push (nT us), toks := tk } :=
  ⟨.ref h'.objs.size, upd H h'.objs.size (.frz (nT us) (.tup xs)), I.laid (t' := tk) (fun b o e => Heap.get?_push_of_some _ e) (Nat.le_refl _) (okT r hz (Heap.get?_push_size _ rfl)), rfl, q _ _ (nT_TuO us) (I.hok.fresh (Nat.le_refl _))⟩
theorem laidT0 (I : Inv X pins σ H s) (r : Vals xs us) (hz : xs.length ≤ sizeLine) (q : NewT xs H Q) : EP X pins σ Q (.ref s.heap.objs.size) { s with heap := s.heap.push (nT us) } := laidT (s := s) (h' := s.heap) (tk := s.toks) I r hz q
end
section
variable {X : Cx} {es : List Expr} {t : TA} {pos : Pos} {a e : Expr} {ta : TE}
def tTupP (t : TA) : TE := fun σ H Q => t σ H fun xs H1 => xs.length ≤ sizeLine ∧ NewT xs H1 Q
theorem pe_tupP {x1} (h : PA X es t) : PE X (.Tuple es x1 pos) (tTupP t) := by
  refine ⟨fun pins s σ H Q I hq => ?_⟩
  exact wpAny_Tuple_spliced (thn (h.run pos pins s σ H _ I hq) fun us s1 ⟨xs, H1, I1, r, z, q⟩ => ⟨by rw [← r.length]; exact z, laidT0 I1 r z q⟩)
def rCatP (K : Fg) : R2 := fun x y H Q => ∃ a b xs ys, x = .ref a ∧ y = .ref b ∧ SqT K H a xs ∧ SqT K H b ys ∧ xs.length + ys.length ≤ sizeLine ∧
  (xs = [] → Q (.ref b) H) ∧ (xs ≠ [] → ys = [] → Q (.ref a) H) ∧ (xs ≠ [] → ys ≠ [] → NewT (xs ++ ys) H Q)
theorem op_catP : OpR X (binaryOp .Add) (rCatP X.G) := by
  intro pins s σ H x y v u Q I rx ry h
  obtain ⟨a, b, xs, ys, rfl, rfl, ha, hb, hz, q0, q1, q2⟩ := h
  obtain rfl : v = .ref a := rx
  obtain rfl : u = .ref b := ry
  obtain ⟨us, r1, p1, _⟩ := I.tuple ha
  obtain ⟨ws, r2, p2, _⟩ := I.tuple hb
  by_cases c : xs = []
  · subst c
    cases r1
    exact cat_tup0 p1 p2 ⟨.ref b, H, I, rfl, q0 rfl⟩
  · refine HT.cat_tup p1 p2 (fun z => c (r1.nil_iff.mp z)) (fun z => ⟨.ref a, H, I, rfl, q1 c (r2.nil_iff.mp z)⟩) (fun z => ?_) (by rw [← r1.length, ← r2.length]; exact hz)
    exact laidT0 I (r1.append r2) (by rw [List.length_append]; exact hz) (q2 c fun w => z (r2.nil_iff.mpr w))
def rSlP (K : Fg) : V → Option Int → Option Int → Hp → VK → Prop := fun x lo hi H Q => ∃ a xs, x = .ref a ∧ SqT K H a xs ∧
  (HT.sIx xs.length 0 lo = 0 ∧ HT.sIx xs.length xs.length hi = xs.length → Q (.ref a) H) ∧ (¬ (HT.sIx xs.length 0 lo = 0 ∧ HT.sIx xs.length xs.length hi = xs.length) → NewT (cutV xs lo hi) H Q)
theorem sl_tupP : SlR X (rSlP X.G) := by
  intro pins s σ H x v vl vu lo hi sl Q I rx hs pl pu h
  obtain ⟨a, xs, rfl, hx, q1, q2⟩ := h
  obtain rfl : v = .ref a := rx
  obtain ⟨us, r, ht, hz⟩ := I.tuple hx
  have hlen : us.toArray.size = xs.length := by rw [List.size_toArray]; exact r.length.symm
  refine ⟨"tuple", _, PyProof.Rows.slot_tuple_getitem.lookup, ht.typeIs, ?_⟩
  by_cases c : HT.sIx xs.length 0 lo = 0 ∧ HT.sIx xs.length xs.length hi = xs.length
  · exact getItem_tuple_whole ht hs pl pu (by rw [hlen]; exact c) ⟨.ref a, H, I, rfl, q1 c⟩
  · refine HT.getItem_tuple_cut ht hs pl pu (by rw [hlen]; exact c) ?_ (by rw [hlen]; exact hz)
    rw [hlen]
    exact laidT0 I ((r.drop (HT.sIx xs.length 0 lo)).take (HT.sIx xs.length xs.length hi - HT.sIx xs.length 0 lo)) (Nat.le_trans (cutV_length xs lo hi) hz) (q2 c)
theorem call_tupleP : CallR X (.type "tuple") (fun xs H Q => ∃ p ys, xs = [.ref p] ∧ ((SqL X.G H p ys ∧ NewT ys H Q) ∨ (SqT X.G H p ys ∧ Q (.ref p) H))) := by
  intro pins s σ H xs us Q I r h
  obtain ⟨p, ys, rfl, h⟩ := h
  obtain ⟨u, rfl, rx⟩ := vals1 r
  obtain rfl : u = .ref p := rx
  rcases h with ⟨hq, q⟩ | ⟨hq, q⟩
  · obtain ⟨ws, rw_, pl, hz⟩ := I.list hq
    refine call_tuple_list pl.isList (fun h' kp => ?_) (by rw [List.size_toArray, ← rw_.length]; exact hz)
    exact laidT (I.kept (t' := s.toks) kp) rw_ hz q
  · obtain ⟨ws, _, pl, _⟩ := I.tuple hq
    exact call_tuple_same pl ⟨.ref p, H, I, rfl, q⟩
def tTupRgP (te : L2.St → Hp → (Int → Int → Hp → Prop) → Prop) : TE := fun σ H Q => te σ H fun a b H1 => RgOk a b ∧ NewT (rgV a b) H1 Q
theorem pe_tupRgP {te : L2.St → Hp → (Int → Int → Hp → Prop) → Prop} {p : Pos} (hc : X.calm = true) (hg : Gl X "tuple") (hm : X.mg "tuple" = none) (he : PRg X e te) (na : starEach [e] X.env = (false, eval e X.env) :: starEach [] X.env := by rfl) : PE X (.Call (.Name "tuple" p) [e] [] pos) (tTupRgP te) := by
  refine ⟨fun pins s σ H Q I h => ?_⟩
  refine Call_ (ld_blt I hg hm boot_tuple (PyProof.Rows.callWith_type1 (args_cons (thn (he pins s σ H _ I h) fun x s1 ⟨r, a, b, t, u, v, H1, ex, hr, I1, ok, q⟩ => args_nil ?_) na) na))
  subst ex
  obtain ⟨b1, b2, b3, b4, b5⟩ := ok
  refine call_tuple_range (n := (b - a).toNat) (I1.ok.hd hc) hr (small_one b1 b2 b3 b4) (rangeSize_nat a b) b5 fun h' tk acc hk hi => ?_
  have e1 : acc = acc.toList.toArray := by simp
  have I2 : Inv X pins σ H1 { s1 with heap := h', toks := tk } := I1.kept hk
  have z := laidT I2 (vals_rg hi) (by rw [rgV_length, sizeLine_eq]; omega) q
  unfold nT at z
  rw [Array.toArray_toList] at z
  exact z
def rRepP (K : Fg) : R2 := fun x y H Q => ∃ l k xs, x = .ref l ∧ y = .int k ∧ SqT K H l xs ∧ xs ≠ [] ∧ 2 ≤ k ∧ k ≤ 1000 ∧ xs.length ≤ 1000 ∧ NewT (List.replicate k.toNat xs).flatten H Q
theorem op_repP : OpR X (binaryOp .Mult) (rRepP X.G) := by
  intro pins s σ H x y v u Q I rx ry h
  obtain ⟨l, k, xs, rfl, rfl, hT, hne, h1, h2, hz, q⟩ := h
  obtain rfl : v = .ref l := rx
  obtain ⟨t, rfl⟩ := ry
  obtain ⟨us, r, ⟨⟨cls, dd, data, sl⟩, ho, hc, n, hd⟩, hs⟩ := I.tuple hT
  simp only at hc hd
  subst hc hd
  have hle : us.length = xs.length := r.length.symm
  have hn : us ≠ [] := fun e => hne (List.eq_nil_of_length_eq_zero (by rw [← hle, e]; rfl))
  have hi : us.toArray.isEmpty = false := by
    cases us with
    | nil => exact absurd rfl hn
    | cons a b => rfl
  have hsz0 : us.toArray.size = xs.length := by rw [List.size_toArray, hle]
  have a0 : k.toNat * xs.length ≤ 1000 * 1000 := Nat.mul_le_mul (by omega) hz
  have hm : ((us.toArray.size : Nat) : Int) * k ≤ 1000000 := by
    rw [hsz0]
    have a1 : ((xs.length : Nat) : Int) * k ≤ 1000 * k := Int.mul_le_mul_of_nonneg_right (by omega) (by omega)
    omega
  have flen : (List.replicate k.toNat us).flatten.length ≤ sizeLine := by
    rw [PyProof.Rows.lm_len_rep_flat, hle, sizeLine_eq]
    omega
  have flx : (List.replicate k.toNat xs).flatten.length ≤ sizeLine := by
    rw [PyProof.Rows.lm_len_rep_flat, sizeLine_eq]
    omega
  have c0 : (decide (k < -(2 ^ 63)) || decide (k ≥ 2 ^ 63)) = false := by
    simp only [Bool.or_eq_false_iff, decide_eq_false_iff_not]
    omega
  have c1 : (us.toArray.isEmpty || k == 1) = false := by
    rw [hi, Bool.false_or]
    exact beq_eq_false_iff_ne.mpr (by omega)
  have c2 : (decide (k ≤ 0) || us.toArray.isEmpty) = false := by
    rw [hi, Bool.or_false]
    exact decide_eq_false (by omega)
  have c4 : Builtin.Tuple.tupleTooMany (((us.toArray.size : Nat) : Int) * k) = false := by
    unfold Builtin.Tuple.tupleTooMany
    rw [sizeLine_eq]
    exact decide_eq_false (by omega)
  refine wpAny_binaryOp_repeat_ref (T := "tuple") (U := "int") (by decide) ⟨_, ho, rfl⟩ (fun s' => typeIs_int s' k t) noFill_tuple_mul F.fills_int_mul F.slot_int_rmul repeat_tuple F.slot_int_index.lookup
    (call_meets F.slot_int_rmul (typeIs_int s k t) F.entry_int_rmul (F.args_int_rmul_2 _ _) (int_rmul_tuple k t l us.toArray n dd sl)
      ⟨ho, rfl, ⟨_, ho, rfl⟩, call_meets F.slot_tuple_mul ⟨_, ho, rfl⟩ F.entry_tuple_mul (F.args_tuple_mul_2 _ _) (tuple_mulW l us.toArray n dd sl k t c0 c1 c2 (by omega) c4 (by rw [size_rep, List.size_toArray]; exact flen)) ⟨ho, ?_⟩⟩)
  rw [size_rep]
  exact laidT0 I (r.rep k.toNat) flx q
end
end Mi

namespace Mi
open PySem PySem.Spec L2
/-! ### what the values hold -/
section
variable {X : Cx} {b : Bool} {K : Fg} {y : Cy} {dr : Option Addr} {F H : Hp} {env : En} {σ : L2.St}
theorem Vr.list (re : Re K y dr F env σ H) {xs : List D} {v : V} (w : Vr K b F env σ (.list xs) v) : ∃ a vs, v = .ref a ∧ H a = some (.lst vs) ∧ xs.length ≤ sizeLine ∧ Rvs K F xs vs := by
  rcases w with w | ⟨_, i, s, e1, e2, e3⟩
  · cases w with
    | lst h1 h2 h3 => exact ⟨_, _, rfl, re.rf.sub _ _ h1, h2, h3⟩
  · obtain ⟨o, q1, q2⟩ := re.get e1
    cases s with
    | l zs =>
      cases e2
      obtain ⟨a, vs, h1, h2, h3, h4, _⟩ := q2
      rw [e3] at q1; cases q1
      cases h1
      exact ⟨a, vs, rfl, h2, h3, h4⟩
    | _ => cases e2
theorem Vr.tuple (re : Re K y dr F env σ H) {xs : List D} {v : V} (w : Vr K b F env σ (.tuple xs) v) : ∃ a vs, v = .ref a ∧ PlT K F a vs ∧ xs.length ≤ sizeLine ∧ Rvs K F xs vs := by
  rcases w with w | ⟨_, i, s, e1, e2, e3⟩
  · cases w with
    | tup h1 h2 h3 => exact ⟨_, _, rfl, h1, h2, h3⟩
  · cases s <;> cases e2
theorem Vr.int (w : Vr K b F env σ (.int i) v) : v = .int i := by
  rcases w with w | ⟨_, j, s, e1, e2, e3⟩
  · cases w; rfl
  · cases s <;> cases e2
theorem Vr.bool (w : Vr K b F env σ (.bool i) v) : v = .bl i := by
  rcases w with w | ⟨_, j, s, e1, e2, e3⟩
  · cases w; rfl
  · cases s <;> cases e2
theorem Vr.none (w : Vr K b F env σ .none v) : v = .non := by
  rcases w with w | ⟨_, j, s, e1, e2, e3⟩
  · cases w; rfl
  · cases s <;> cases e2
theorem Vr.str (w : Vr K b F env σ (.str i) v) : v = .str i ∧ i.length ≤ sizeLine := by
  rcases w with w | ⟨_, j, s, e1, e2, e3⟩
  · cases w; exact ⟨rfl, by assumption⟩
  · cases s <;> cases e2
theorem re_tuple (re : Re K y dr F env σ H) {a : Addr} {vs : List V} (h : PlT K F a vs) : SqT K H a vs := sqT_mono re.rf.sub h.sq
/-- the data of the kit -/
theorem Rv.dp : ∀ {d : D} {v : V}, Rv K F d v → d.canLay0 = true → Dp K F v d
  | _, _, .non, _ => .non
  | _, _, .bl b, _ => .bl b
  | _, _, .int i, _ => .int i
  | _, _, .str s z, _ => .str s
  | _, _, .lst q z r, c => .lst (SqL.of q) (go r (by simpa [PyData.canLay0] using c))
  | _, _, .tup q z r, c => .tup q.sq (go r (by simpa [PyData.canLay0] using c))
  | _, _, .dic q r, c => by simp [PyData.canLay0] at c
  | _, _, .dit q r, c => by simp [PyData.canLay0] at c
  | _, _, .dil q r, c => by simp [PyData.canLay0] at c
where go : ∀ {d : List D} {v : List V}, Rvs K F d v → PyData.canLayAll0 d = true → DpAll K F v d
  | _, _, .nil, _ => .nil
  | _, _, .cons a b, c => by
    simp only [PyData.canLayAll0, Bool.and_eq_true] at c
    exact .cons (Rv.dp a c.1) (go b c.2)
theorem dp_mono {F F' : Hp} (h : Same F F') : ∀ {v : V} {d : D}, Dp K F v d → Dp K F' v d
  | _, _, .non => .non
  | _, _, .bl b => .bl b
  | _, _, .int i => .int i
  | _, _, .str x => .str x
  | _, _, .lst q r => .lst (sqL_mono h q) (go r)
  | _, _, .tup q r => .tup (sqT_mono h q) (go r)
where go : ∀ {v : List V} {d : List D}, DpAll K F v d → DpAll K F' v d
  | _, _, .nil => .nil
  | _, _, .cons a b => .cons (dp_mono h a) (go b)
theorem Vr.dp (re : Re K y dr F env σ H) {d : D} {v : V} (w : Vr K b F env σ d v) (c : d.canLay0 = true) : Dp K H v d := by
  rcases w with w | ⟨z, i, s, e1, e2, e3⟩
  · exact dp_mono re.rf.sub (w.dp c)
  · cases s with
    | l zs =>
      cases e2
      obtain ⟨a, vs, rfl, h2, h3, h4⟩ := Vr.list (b := b) re (.inr ⟨z, i, _, e1, rfl, e3⟩)
      exact .lst (SqL.of h2) (dp_mono.go re.rf.sub (Rv.dp.go h4 (by simpa [PyData.canLay0] using c)))
    | k zs => cases e2; simp [PyData.canLay0] at c
    | t zs => cases e2; simp [PyData.canLay0] at c
    | _ => cases e2
/-! ### numbers -/
/-- the kernel must not reckon with the great numbers here: the choice is not to be reduced -/
noncomputable def cIf {α : Type} (p : Prop) (a b : α) : α := @ite α p (Classical.propDecidable p) a b
theorem cIf_pos {α : Type} {p : Prop} {a b : α} (h : p) : cIf p a b = a := @if_pos p (Classical.propDecidable p) h α a b
theorem cIf_neg {α : Type} {p : Prop} {a b : α} (h : ¬p) : cIf p a b = b := @if_neg p (Classical.propDecidable p) h α a b
noncomputable def small (i : Int) : Bool := @decide (-18446744073709551616 < i ∧ i < 18446744073709551616) (Classical.propDecidable _)
def addD : D → D → Option D
  | .int i, .int j => some (.int (i + j))
  | .str x, .str z => if x.length + z.length ≤ sizeLine then some (.str (x ++ z)) else none
  | .tuple xs, .tuple ys => if xs.length + ys.length ≤ sizeLine then some (.tuple (xs ++ ys)) else none
  | .list xs, .list ys => if xs.length + ys.length ≤ sizeLine then some (.list (xs ++ ys)) else none
  | _, _ => none
def subD : D → D → Option D
  | .int i, .int j => some (.int (i - j))
  | _, _ => none
noncomputable def mulD : D → D → Option D
  | .int i, .int j => if small i = true ∨ small j = true then some (.int (i * j)) else none
  | .list xs, .int k => cIf (-(2 ^ 62) ≤ k ∧ k < 2 ^ 62 ∧ xs.length * k.toNat ≤ sizeLine) (some (.list (List.replicate k.toNat xs).flatten)) none
  | _, _ => none
noncomputable def fdivD : D → D → Option D
  | .int i, .int j => cIf (0 < j ∧ j < 1073741824) (some (.int (i / j))) none
  | _, _ => none
def modD : D → D → Option D
  | .int i, .int j => if 0 < j then some (.int (i % j)) else none
  | _, _ => none
noncomputable def powD : D → D → Option D
  | .int i, .int j => cIf (0 ≤ j ∧ j ≤ 1000000 ∧ i.natAbs < 2 ^ 64) (some (.int (i ^ j.toNat))) none
  | _, _ => none
def negD : D → Option D
  | .int i => some (.int (-i))
  | _ => none
def ltD : D → D → Option D
  | .int i, .int j => some (.bool (decide (i < j)))
  | .str x, .str z => some (.bool (decide (x.cps.toList < z.cps.toList)))
  | .tuple xs, .tuple ys => if W.alike (.tuple xs) (.tuple ys) = true ∧ SeqAt.shaped (.tuple xs) = true ∧ SeqAt.shaped (.tuple ys) = true then some (.bool (W.dataLt (.tuple xs) (.tuple ys))) else none
  | _, _ => none
def leD : D → D → Option D
  | .int i, .int j => some (.bool (decide (i ≤ j)))
  | .str x, .str z => some (.bool (!decide (z.cps.toList < x.cps.toList)))
  | .tuple xs, .tuple ys => if W.alike (.tuple xs) (.tuple ys) = true ∧ SeqAt.shaped (.tuple xs) = true ∧ SeqAt.shaped (.tuple ys) = true then some (.bool (!W.dataLt (.tuple ys) (.tuple xs))) else none
  | _, _ => none
def gtD : D → D → Option D
  | .int i, .int j => some (.bool (decide (j < i)))
  | .str x, .str z => some (.bool (decide (z.cps.toList < x.cps.toList)))
  | .tuple xs, .tuple ys => if W.alike (.tuple xs) (.tuple ys) = true ∧ SeqAt.shaped (.tuple xs) = true ∧ SeqAt.shaped (.tuple ys) = true then some (.bool (W.dataLt (.tuple ys) (.tuple xs))) else none
  | _, _ => none
def geD : D → D → Option D
  | .int i, .int j => some (.bool (decide (j ≤ i)))
  | .str x, .str z => some (.bool (!decide (x.cps.toList < z.cps.toList)))
  | .tuple xs, .tuple ys => if W.alike (.tuple xs) (.tuple ys) = true ∧ SeqAt.shaped (.tuple xs) = true ∧ SeqAt.shaped (.tuple ys) = true then some (.bool (!W.dataLt (.tuple xs) (.tuple ys))) else none
  | _, _ => none
def eqB (x z : D) : Option Bool := match x, z with
  | .int i, .int j => some (decide (i = j))
  | .str i, .str j => some (decide (i = j))
  | .bool i, .bool j => some (decide (i = j))
  | x, z => if SeqAt.shaped x = true ∧ SeqAt.shaped z = true then some (PyData.eqv x z) else none
def eqD (x z : D) : Option D := (eqB x z).map .bool
def neD (x z : D) : Option D := (eqB x z).map fun c => .bool (!c)
def isN (x : D) : Bool := match x with
  | .none => true
  | _ => false
end
section
variable {X : Cx} {b b' : Bool} {a c : Expr} {ma mc : SE} {pos : Pos}
theorem or1 {f : Value → Value → Sem Value} {r r' : R2} (h : OpR X f r) (h' : OpR X f r') : OpR X f (fun x z H Q => r x z H Q ∨ r' x z H Q) := h.or h'
theorem op_addA : OpR X (binaryOp .Add) (fun x z H Q => rI0 (fun i j => .int (i + j)) x z H Q ∨ ((∃ i j, x = .str i ∧ z = .str j ∧ i.length + j.length ≤ sizeLine ∧ Q (.str (i ++ j)) H) ∨ (rCatP X.G x z H Q ∨ rCat x z H Q))) :=
  op_add.or (op_add_str.or (op_catP.or op_cat))
theorem str_append_length (x z : Str) : (x ++ z).length = x.length + z.length := by
  show (x.cps ++ z.cps).size = x.cps.size + z.cps.size
  exact Array.size_append
theorem Rv.tupNew {K : Fg} {F : Hp} {p : Addr} {o : Obj} {xs : List D} {vs : List V} (hp : F p = none) (t : TuO o) (hz : xs.length ≤ sizeLine) (r : Rvs K F xs vs) : Rv K (upd F p (.frz o (.tup vs))) (.tuple xs) (.ref p) :=
  .tup (.inl ⟨o, upd_same, t⟩) hz (r.mono (upd_grow hp))
theorem Rv.lstNew {K : Fg} {F : Hp} {p : Addr} {xs : List D} {vs : List V} (hp : F p = none) (hz : xs.length ≤ sizeLine) (r : Rvs K F xs vs) : Rv K (upd F p (.lst vs)) (.list xs) (.ref p) :=
  .lst upd_same hz (r.mono (upd_grow hp))
theorem ok_add : Ok2 X b addD (fun x z H Q => rI0 (fun i j => .int (i + j)) x z H Q ∨ ((∃ i j, x = .str i ∧ z = .str j ∧ i.length + j.length ≤ sizeLine ∧ Q (.str (i ++ j)) H) ∨ (rCatP X.G x z H Q ∨ rCat x z H Q))) := by
  intro y dr F env σ H d1 d2 d v1 v2 Q re w1 w2 e k
  unfold addD at e
  split at e
  · cases e
    exact .inl ⟨_, _, w1.int, w2.int, k _ H F re Ex.refl (.int _)⟩
  · split at e
    · cases e
      rename_i hz
      exact .inr (.inl ⟨_, _, w1.str.1, w2.str.1, hz, k _ H F re Ex.refl (.str _ (by rw [str_append_length]; exact hz))⟩)
    · cases e
  · split at e
    · cases e
      rename_i xs ys hz
      obtain ⟨a1, vs, rfl, h1, z1, r1⟩ := w1.tuple re
      obtain ⟨a2, ws, rfl, h2, z2, r2⟩ := w2.tuple re
      have l1 := r1.length
      have l2 := r2.length
      refine .inr (.inr (.inl ⟨a1, a2, vs, ws, rfl, rfl, re_tuple re h1, re_tuple re h2, by omega, fun e => ?_, fun _ e => ?_, fun _ _ p o t hp => ?_⟩))
      · subst e
        cases r1
        exact k _ H F re Ex.refl (.tup h2 z2 r2)
      · subst e
        cases r2
        rw [List.append_nil] at k
        exact k _ H F re Ex.refl (.tup h1 z1 r1)
      · exact k _ _ _ (re.laid hp) (re.ex hp) (Rv.tupNew (re.nF hp) t (by rw [List.length_append]; exact hz) (r1.append r2))
    · cases e
  · split at e
    · cases e
      rename_i xs ys hz
      obtain ⟨a1, vs, rfl, h1, z1, r1⟩ := w1.list re
      obtain ⟨a2, ws, rfl, h2, z2, r2⟩ := w2.list re
      have l1 := r1.length
      have l2 := r2.length
      refine .inr (.inr (.inr ⟨a1, a2, vs, ws, rfl, rfl, h1, h2, by omega, fun p hp => ?_⟩))
      exact k _ _ _ (re.laid hp) (re.ex hp) (Rv.lstNew (re.nF hp) (by rw [List.length_append]; exact hz) (r1.append r2))
    · cases e
  · cases e
theorem me_add (ha : ME X b a ma) (hc : ME X b c mc) : ME X b' (.BinOp a .Add c pos) (sOp addD ma mc) := me_op op_addA ok_add ha hc
theorem ok_sub : Ok2 X b subD (rI0 fun i j => .int (i - j)) := by
  intro y dr F env σ H d1 d2 d v1 v2 Q re w1 w2 e k
  unfold subD at e
  split at e
  · cases e
    exact ⟨_, _, w1.int, w2.int, k _ H F re Ex.refl (.int _)⟩
  · cases e
theorem me_sub (ha : ME X b a ma) (hc : ME X b c mc) : ME X b' (.BinOp a .Sub c pos) (sOp subD ma mc) := me_op op_sub ok_sub ha hc
theorem small_iff {i : Int} (h : small i = true) : -(2 ^ 64) < i ∧ i < 2 ^ 64 := by
  unfold small at h
  have := @of_decide_eq_true _ (Classical.propDecidable _) h
  omega
theorem Rvs.rep {K : Fg} {F : Hp} {xs : List D} {vs : List V} (r : Rvs K F xs vs) : ∀ n, Rvs K F (List.replicate n xs).flatten (List.replicate n vs).flatten
  | 0 => .nil
  | n + 1 => by
    rw [List.replicate_succ, List.replicate_succ, List.flatten_cons, List.flatten_cons]
    exact r.append (Rvs.rep r n)
theorem flat_len {α : Type} (xs : List α) : ∀ n, (List.replicate n xs).flatten.length = xs.length * n
  | 0 => by simp
  | n + 1 => by rw [List.replicate_succ, List.flatten_cons, List.length_append, flat_len xs n, Nat.mul_succ]; omega
theorem ok_mul : Ok2 X b mulD (fun x z H Q => rI CMul (fun i j => .int (i * j)) x z H Q ∨ rRep x z H Q) := by
  intro y dr F env σ H d1 d2 d v1 v2 Q re w1 w2 e k
  unfold mulD at e
  split at e
  · split at e
    · cases e
      rename_i h
      exact .inl ⟨_, _, w1.int, w2.int, h.imp small_iff small_iff, k _ H F re Ex.refl (.int _)⟩
    · cases e
  · unfold cIf at e
    split at e
    · cases e
      rename_i xs n h
      obtain ⟨a1, vs, rfl, h1, z1, r1⟩ := w1.list re
      have l1 := r1.length
      refine .inr ⟨a1, _, vs, rfl, w2.int, h1, by omega, by omega, by rw [← l1]; exact h.2.2, fun p hp => ?_⟩
      exact k _ _ _ (re.laid hp) (re.ex hp) (Rv.lstNew (re.nF hp) (by rw [flat_len]; exact h.2.2) (r1.rep _))
    · cases e
  · cases e
theorem me_mul (ha : ME X b a ma) (hc : ME X b c mc) : ME X b' (.BinOp a .Mult c pos) (sOp mulD ma mc) := me_op (op_mul.or op_rep) ok_mul ha hc
theorem ok_fdiv : Ok2 X b fdivD (rI CDiv fun i j => .int (i / j)) := by
  intro y dr F env σ H d1 d2 d v1 v2 Q re w1 w2 e k
  unfold fdivD at e
  split at e
  · unfold cIf at e
    split at e
    · cases e
      rename_i h
      exact ⟨_, _, w1.int, w2.int, h, k _ H F re Ex.refl (.int _)⟩
    · cases e
  · cases e
theorem me_fdiv (ha : ME X b a ma) (hc : ME X b c mc) : ME X b' (.BinOp a .FloorDiv c pos) (sOp fdivD ma mc) := me_op op_fdiv ok_fdiv ha hc
theorem ok_mod : Ok2 X b modD (rI (fun _ j => 0 < j) fun i j => .int (i % j)) := by
  intro y dr F env σ H d1 d2 d v1 v2 Q re w1 w2 e k
  unfold modD at e
  split at e
  · split at e
    · cases e
      rename_i h
      exact ⟨_, _, w1.int, w2.int, h, k _ H F re Ex.refl (.int _)⟩
    · cases e
  · cases e
theorem me_mod (ha : ME X b a ma) (hc : ME X b c mc) : ME X b' (.BinOp a .Mod c pos) (sOp modD ma mc) := me_op op_mod ok_mod ha hc
theorem ok_pow : Ok2 X b powD (rI CPow fun i j => .int (i ^ j.toNat)) := by
  intro y dr F env σ H d1 d2 d v1 v2 Q re w1 w2 e k
  unfold powD at e
  split at e
  · unfold cIf at e
    split at e
    · cases e
      rename_i h
      exact ⟨_, _, w1.int, w2.int, h, k _ H F re Ex.refl (.int _)⟩
    · cases e
  · cases e
theorem me_pow (ha : ME X b a ma) (hc : ME X b c mc) : ME X b' (.BinOp a .Pow c pos) (sOp powD ma mc) := me_op op_pow ok_pow ha hc
def sUn (f : D → Option D) (a : SE) : SE := fun env Q => a env fun x => ob (f x) Q
theorem me_neg (ha : ME X b a ma) : ME X b' (.UnaryOp .USub a pos) (sUn negD ma) := by
  refine ⟨⟨fun pins s σ H Q I h => (pe_un un_neg ha.run).run pins s σ H Q I ?_⟩, fun env P Q k h => ha.mono _ _ _ (fun _ h1 => ob_mono k h1) h⟩
  obtain ⟨y, dr, F, env, re, hm⟩ := h
  refine ⟨y, dr, F, env, re, ha.mono _ _ _ (fun d1 h1 v1 H1 F1 r1 s1 w1 => ?_) hm⟩
  cases d1 with
  | int i => exact ⟨i, w1.int, h1 _ H1 F1 r1 s1 (.inl (.int _))⟩
  | _ => exact h1.elim
/-! ### comparisons -/
theorem op_ltD {op : CmpOp} (hu : X.A.units + 65 < cLine) : OpR X (compareOp .Lt) (fun x z H Q => ∃ d e, Dp X.G H x d ∧ Dp X.G H z e ∧ W.alike d e = true ∧ d ≠ .none ∧ SeqAt.shaped d = true ∧ SeqAt.shaped e = true ∧ Q (.bl (W.dataLt d e)) H) := by
  intro pins s σ H x y v u Q I rx ry h
  obtain ⟨d, e, hd, he, al, hn, sd, se, q⟩ := h
  obtain ⟨as, r1⟩ := Dp.reads I d x v hd rx
  obtain ⟨bs, r2⟩ := Dp.reads I e y u he ry
  have hdep : d.depth ≤ 64 := by
    unfold SeqAt.shaped at sd
    simp only [Bool.and_eq_true, decide_eq_true_eq] at sd
    exact sd.2
  exact W.rcLt_alike d e X.A s v u as bs r1 r2 al hn (by omega) X.prog X.w _ _ ⟨.bl _, H, I, rfl, q⟩
theorem op_gtD  (hu : X.A.units + 65 < cLine) : OpR X (compareOp .Gt) (fun x z H Q => ∃ d e, Dp X.G H x d ∧ Dp X.G H z e ∧ W.alike d e = true ∧ d ≠ .none ∧ SeqAt.shaped d = true ∧ SeqAt.shaped e = true ∧ Q (.bl (W.dataLt e d)) H) := by
  intro pins s σ H x y v u Q I rx ry h
  obtain ⟨d, e, hd, he, al, hn, sd, se, q⟩ := h
  obtain ⟨as, r1⟩ := Dp.reads I d x v hd rx
  obtain ⟨bs, r2⟩ := Dp.reads I e y u he ry
  have hdep : d.depth ≤ 64 := by
    unfold SeqAt.shaped at sd
    simp only [Bool.and_eq_true, decide_eq_true_eq] at sd
    exact sd.2
  exact W.rcGt_alike d e X.A s v u as bs r1 r2 al hn (by omega) X.prog X.w _ _ ⟨.bl _, H, I, rfl, q⟩
theorem op_leD  (hu : X.A.units + 65 < cLine) : OpR X (compareOp .LtE) (fun x z H Q => ∃ d e, Dp X.G H x d ∧ Dp X.G H z e ∧ W.alike d e = true ∧ d ≠ .none ∧ SeqAt.shaped d = true ∧ SeqAt.shaped e = true ∧ Q (.bl (!W.dataLt e d)) H) := by
  intro pins s σ H x y v u Q I rx ry h
  obtain ⟨d, e, hd, he, al, hn, sd, se, q⟩ := h
  obtain ⟨as, r1⟩ := Dp.reads I d x v hd rx
  obtain ⟨bs, r2⟩ := Dp.reads I e y u he ry
  have hdep : d.depth ≤ 64 := by
    unfold SeqAt.shaped at sd
    simp only [Bool.and_eq_true, decide_eq_true_eq] at sd
    exact sd.2
  exact W.rcLe_alike d e X.A s v u as bs r1 r2 al hn (by omega) X.prog X.w _ _ ⟨.bl _, H, I, rfl, q⟩
theorem op_geD  (hu : X.A.units + 65 < cLine) : OpR X (compareOp .GtE) (fun x z H Q => ∃ d e, Dp X.G H x d ∧ Dp X.G H z e ∧ W.alike d e = true ∧ d ≠ .none ∧ SeqAt.shaped d = true ∧ SeqAt.shaped e = true ∧ Q (.bl (!W.dataLt d e)) H) := by
  intro pins s σ H x y v u Q I rx ry h
  obtain ⟨d, e, hd, he, al, hn, sd, se, q⟩ := h
  obtain ⟨as, r1⟩ := Dp.reads I d x v hd rx
  obtain ⟨bs, r2⟩ := Dp.reads I e y u he ry
  have hdep : d.depth ≤ 64 := by
    unfold SeqAt.shaped at sd
    simp only [Bool.and_eq_true, decide_eq_true_eq] at sd
    exact sd.2
  exact W.rcGe_alike d e X.A s v u as bs r1 r2 al hn (by omega) X.prog X.w _ _ ⟨.bl _, H, I, rfl, q⟩
end
end Mi

namespace Mi
open PySem PySem.Spec L2
section
variable {X : Cx} {b b' : Bool} {a c e : Expr} {ma mc me : SE} {pos : Pos}
def rLtA (K : Fg) : R2 := fun x z H Q => rI0 (fun i j => .bl (decide (i < j))) x z H Q ∨ ((∃ i j, x = .str i ∧ z = .str j ∧ Q (.bl (decide (i.cps.toList < j.cps.toList))) H) ∨ (∃ d e, Dp K H x d ∧ Dp K H z e ∧ W.alike d e = true ∧ d ≠ .none ∧ SeqAt.shaped d = true ∧ SeqAt.shaped e = true ∧ Q (.bl (W.dataLt d e)) H))
theorem op_ltA (hu : X.A.units + 65 < cLine) : OpR X (compareOp .Lt) (rLtA X.G) := op_lt.or (op_lt_str.or (op_ltD (op := .Lt) hu))
theorem lay_shaped {d : D} (h : SeqAt.shaped d = true) : d.canLay0 = true := by
  unfold SeqAt.shaped at h
  simp only [Bool.and_eq_true] at h
  exact h.1
theorem ok_lt : Ok2 X b ltD (rLtA X.G) := by
  intro y dr F env σ H d1 d2 d v1 v2 Q re w1 w2 e k
  unfold ltD at e
  split at e
  · cases e
    exact .inl ⟨_, _, w1.int, w2.int, k _ H F re Ex.refl (.bl _)⟩
  · cases e
    exact .inr (.inl ⟨_, _, w1.str.1, w2.str.1, k _ H F re Ex.refl (.bl _)⟩)
  · split at e
    · cases e
      rename_i h
      exact .inr (.inr ⟨_, _, w1.dp re (lay_shaped h.2.1), w2.dp re (lay_shaped h.2.2), h.1, by simp, h.2.1, h.2.2, k _ H F re Ex.refl (.bl _)⟩)
    · cases e
  · cases e
def rLeA (K : Fg) : R2 := fun x z H Q => rI0 (fun i j => .bl (decide (i ≤ j))) x z H Q ∨ ((∃ i j, x = .str i ∧ z = .str j ∧ Q (.bl (!decide (j.cps.toList < i.cps.toList))) H) ∨ (∃ d e, Dp K H x d ∧ Dp K H z e ∧ W.alike d e = true ∧ d ≠ .none ∧ SeqAt.shaped d = true ∧ SeqAt.shaped e = true ∧ Q (.bl (!W.dataLt e d)) H))
theorem op_leA (hu : X.A.units + 65 < cLine) : OpR X (compareOp .LtE) (rLeA X.G) := op_le.or (op_le_str.or (op_leD hu))
theorem ok_le : Ok2 X b leD (rLeA X.G) := by
  intro y dr F env σ H d1 d2 d v1 v2 Q re w1 w2 e k
  unfold leD at e
  split at e
  · cases e
    exact .inl ⟨_, _, w1.int, w2.int, k _ H F re Ex.refl (.bl _)⟩
  · cases e
    exact .inr (.inl ⟨_, _, w1.str.1, w2.str.1, k _ H F re Ex.refl (.bl _)⟩)
  · split at e
    · cases e
      rename_i h
      exact .inr (.inr ⟨_, _, w1.dp re (lay_shaped h.2.1), w2.dp re (lay_shaped h.2.2), h.1, by simp, h.2.1, h.2.2, k _ H F re Ex.refl (.bl _)⟩)
    · cases e
  · cases e
def rGtA (K : Fg) : R2 := fun x z H Q => rI0 (fun i j => .bl (decide (j < i))) x z H Q ∨ ((∃ i j, x = .str i ∧ z = .str j ∧ Q (.bl (decide (j.cps.toList < i.cps.toList))) H) ∨ (∃ d e, Dp K H x d ∧ Dp K H z e ∧ W.alike d e = true ∧ d ≠ .none ∧ SeqAt.shaped d = true ∧ SeqAt.shaped e = true ∧ Q (.bl (W.dataLt e d)) H))
theorem op_gtA (hu : X.A.units + 65 < cLine) : OpR X (compareOp .Gt) (rGtA X.G) := op_gt.or (op_gt_str.or (op_gtD hu))
theorem ok_gt : Ok2 X b gtD (rGtA X.G) := by
  intro y dr F env σ H d1 d2 d v1 v2 Q re w1 w2 e k
  unfold gtD at e
  split at e
  · cases e
    exact .inl ⟨_, _, w1.int, w2.int, k _ H F re Ex.refl (.bl _)⟩
  · cases e
    exact .inr (.inl ⟨_, _, w1.str.1, w2.str.1, k _ H F re Ex.refl (.bl _)⟩)
  · split at e
    · cases e
      rename_i h
      exact .inr (.inr ⟨_, _, w1.dp re (lay_shaped h.2.1), w2.dp re (lay_shaped h.2.2), h.1, by simp, h.2.1, h.2.2, k _ H F re Ex.refl (.bl _)⟩)
    · cases e
  · cases e
def rGeA (K : Fg) : R2 := fun x z H Q => rI0 (fun i j => .bl (decide (j ≤ i))) x z H Q ∨ ((∃ i j, x = .str i ∧ z = .str j ∧ Q (.bl (!decide (i.cps.toList < j.cps.toList))) H) ∨ (∃ d e, Dp K H x d ∧ Dp K H z e ∧ W.alike d e = true ∧ d ≠ .none ∧ SeqAt.shaped d = true ∧ SeqAt.shaped e = true ∧ Q (.bl (!W.dataLt d e)) H))
theorem op_geA (hu : X.A.units + 65 < cLine) : OpR X (compareOp .GtE) (rGeA X.G) := op_ge.or (op_ge_str.or (op_geD hu))
theorem ok_ge : Ok2 X b geD (rGeA X.G) := by
  intro y dr F env σ H d1 d2 d v1 v2 Q re w1 w2 e k
  unfold geD at e
  split at e
  · cases e
    exact .inl ⟨_, _, w1.int, w2.int, k _ H F re Ex.refl (.bl _)⟩
  · cases e
    exact .inr (.inl ⟨_, _, w1.str.1, w2.str.1, k _ H F re Ex.refl (.bl _)⟩)
  · split at e
    · cases e
      rename_i h
      exact .inr (.inr ⟨_, _, w1.dp re (lay_shaped h.2.1), w2.dp re (lay_shaped h.2.2), h.1, by simp, h.2.1, h.2.2, k _ H F re Ex.refl (.bl _)⟩)
    · cases e
  · cases e
def rEqA (K : Fg) : R2 := fun x z H Q => rEq x z H Q ∨ rEqD K x z H Q
def rNeA (K : Fg) : R2 := fun x z H Q => rNe x z H Q ∨ rNeD K x z H Q
theorem ok_eq : Ok2 X b eqD (rEqA X.G) := by
  intro y dr F env σ H d1 d2 d v1 v2 Q re w1 w2 e k
  unfold eqD eqB at e
  split at e
  · cases e
    refine .inl ⟨by rw [w1.int, w2.int]; rfl, ?_⟩
    rw [w1.int, w2.int]
    have z := k _ H F re Ex.refl (.bl _)
    simpa using z
  · cases e
    refine .inl ⟨by rw [w1.str.1, w2.str.1]; rfl, ?_⟩
    rw [w1.str.1, w2.str.1]
    have z := k _ H F re Ex.refl (.bl _)
    simpa using z
  · cases e
    refine .inl ⟨by rw [w1.bool, w2.bool]; rfl, ?_⟩
    rw [w1.bool, w2.bool]
    have z := k _ H F re Ex.refl (.bl _)
    simpa using z
  · split at e
    · cases e
      rename_i h
      exact .inr ⟨_, _, w1.dp re (lay_shaped h.1), w2.dp re (lay_shaped h.2), h.1, h.2, k _ H F re Ex.refl (.bl _)⟩
    · cases e
theorem ok_ne : Ok2 X b neD (rNeA X.G) := by
  intro y dr F env σ H d1 d2 d v1 v2 Q re w1 w2 e k
  unfold neD eqB at e
  split at e
  · cases e
    refine .inl ⟨by rw [w1.int, w2.int]; rfl, ?_⟩
    rw [w1.int, w2.int]
    have z := k _ H F re Ex.refl (.bl _)
    simpa using z
  · cases e
    refine .inl ⟨by rw [w1.str.1, w2.str.1]; rfl, ?_⟩
    rw [w1.str.1, w2.str.1]
    have z := k _ H F re Ex.refl (.bl _)
    simpa using z
  · cases e
    refine .inl ⟨by rw [w1.bool, w2.bool]; rfl, ?_⟩
    rw [w1.bool, w2.bool]
    have z := k _ H F re Ex.refl (.bl _)
    simpa using z
  · split at e
    · cases e
      rename_i h
      exact .inr ⟨_, _, w1.dp re (lay_shaped h.1), w2.dp re (lay_shaped h.2), h.1, h.2, k _ H F re Ex.refl (.bl _)⟩
    · cases e
/-- a comparison's rule with its sense: the pair that me_cmp, mt_cmp and the chains take -/
structure CmpOk (X : Cx) (b : Bool) (op : CmpOp) (f : D → D → Option D) : Prop where
  ex : ∃ r, OpR X (compareOp op) r ∧ Ok2 X b f r
theorem c_lt (hu : X.A.units + 65 < cLine) : CmpOk X b .Lt ltD := ⟨_, op_ltA hu, ok_lt⟩
theorem c_le (hu : X.A.units + 65 < cLine) : CmpOk X b .LtE leD := ⟨_, op_leA hu, ok_le⟩
theorem c_gt (hu : X.A.units + 65 < cLine) : CmpOk X b .Gt gtD := ⟨_, op_gtA hu, ok_gt⟩
theorem c_ge (hu : X.A.units + 65 < cLine) : CmpOk X b .GtE geD := ⟨_, op_geA hu, ok_ge⟩
theorem c_eq (hu : X.A.units + 65 < cLine) : CmpOk X b .Eq eqD := ⟨_, op_eq.or (op_eqD (by omega)), ok_eq⟩
theorem c_ne (hu : X.A.units + 65 < cLine) : CmpOk X b .NotEq neD := ⟨_, op_ne.or (op_neD (by omega)), ok_ne⟩
theorem me_c {op : CmpOp} {f : D → D → Option D} (o : CmpOk X b op f) (ha : ME X b a ma) (hc : ME X b c mc) (hm : behindInMarks op c = false := by first | exact nomark _ | rfl) : ME X b' (.Compare a [op] [c] pos) (sOp f ma mc) := by
  obtain ⟨r, h1, h2⟩ := o.ex
  exact me_cmp h1 h2 hm ha hc
theorem mt_c {op : CmpOp} {f : D → D → Option D} (o : CmpOk X b op f) (ha : ME X b a ma) (hc : ME X b c mc) (hm : behindInMarks op c = false := by first | exact nomark _ | rfl) : MT X (.Compare a [op] [c] pos) (sTB (sOp f ma mc)) := by
  obtain ⟨r, h1, h2⟩ := o.ex
  exact mt_cmp h1 h2 hm ha hc
/-! in -/
def inB (x z : D) : Option Bool := match x, z with
  | .str s, .str t => some (!(Builtin.Str.occurrences t s 0 t.length 1).isEmpty)
  | x, .list ds => if SeqAt.shaped x = true ∧ SeqAt.shaped (.list ds) = true then some (ds.any fun z => PyData.eqv z x) else none
  | x, .tuple ds => if SeqAt.shaped x = true ∧ SeqAt.shaped (.tuple ds) = true then some (ds.any fun z => PyData.eqv z x) else none
  | _, _ => none
def inD (x z : D) : Option D := (inB x z).map .bool
def ninD (x z : D) : Option D := (inB x z).map fun c => .bool (!c)
def rInT (K : Fg) (n : Bool) : R2 := fun x z H Q => ∃ d ds, Dp K H x d ∧ Dp K H z (.tuple ds) ∧ SeqAt.shaped d = true ∧ SeqAt.shaped (.tuple ds) = true ∧ Q (.bl (if n then !(ds.any fun z => PyData.eqv z d) else ds.any fun z => PyData.eqv z d)) H
theorem op_inT (hu : X.A.units + 65 < cLine) : OpR X (compareOp .In) (rInT X.G false) := by
  intro pins s σ H x y v u Q I rx ry h
  obtain ⟨d, ds, hd, he, sd, se, q⟩ := h
  obtain ⟨as, r1⟩ := Dp.reads I d x v hd rx
  obtain ⟨bs, r2⟩ := Dp.reads I (.tuple ds) y u he ry
  exact SeqAt.in_tuple_reads r2 r1 (SeqAt.canLay_of_shaped se) (SeqAt.canLay_of_shaped sd) (PyProof.Rows.room_in_shaped sd hu) ⟨.bl _, H, I, rfl, q⟩
theorem op_ninT (hu : X.A.units + 65 < cLine) : OpR X (compareOp .NotIn) (rInT X.G true) := by
  intro pins s σ H x y v u Q I rx ry h
  obtain ⟨d, ds, hd, he, sd, se, q⟩ := h
  obtain ⟨as, r1⟩ := Dp.reads I d x v hd rx
  obtain ⟨bs, r2⟩ := Dp.reads I (.tuple ds) y u he ry
  exact SeqAt.notIn_tuple_reads r2 r1 (SeqAt.canLay_of_shaped se) (SeqAt.canLay_of_shaped sd) (PyProof.Rows.room_in_shaped sd hu) ⟨.bl _, H, I, rfl, q⟩
theorem c_in (hu : X.A.units + 65 < cLine) : CmpOk X b .In inD := by
  refine ⟨_, op_in_str.or ((op_inD hu).or (op_inT hu)), ?_⟩
  intro y dr F env σ H d1 d2 d v1 v2 Q re w1 w2 e k
  unfold inD inB at e
  split at e
  · cases e
    exact .inl ⟨_, _, w1.str.1, w2.str.1, k _ H F re Ex.refl (.bl _)⟩
  · split at e
    · cases e
      rename_i h
      exact .inr (.inl ⟨_, _, w1.dp re (lay_shaped h.1), w2.dp re (lay_shaped h.2), h.1, h.2, k _ H F re Ex.refl (.bl _)⟩)
    · cases e
  · split at e
    · cases e
      rename_i h
      exact .inr (.inr ⟨_, _, w1.dp re (lay_shaped h.1), w2.dp re (lay_shaped h.2), h.1, h.2, k _ H F re Ex.refl (.bl _)⟩)
    · cases e
  · cases e
theorem c_nin (hu : X.A.units + 65 < cLine) : CmpOk X b .NotIn ninD := by
  refine ⟨_, op_notin_str.or ((op_notInD hu).or (op_ninT hu)), ?_⟩
  intro y dr F env σ H d1 d2 d v1 v2 Q re w1 w2 e k
  unfold ninD inB at e
  split at e
  · cases e
    exact .inl ⟨_, _, w1.str.1, w2.str.1, k _ H F re Ex.refl (.bl _)⟩
  · split at e
    · cases e
      rename_i h
      exact .inr (.inl ⟨_, _, w1.dp re (lay_shaped h.1), w2.dp re (lay_shaped h.2), h.1, h.2, k _ H F re Ex.refl (.bl _)⟩)
    · cases e
  · split at e
    · cases e
      rename_i h
      exact .inr (.inr ⟨_, _, w1.dp re (lay_shaped h.1), w2.dp re (lay_shaped h.2), h.1, h.2, k _ H F re Ex.refl (.bl _)⟩)
    · cases e
  · cases e
/-! is None -/
theorem vr_ref {K : Fg} {y : Cy} {dr : Option Addr} {F H : Hp} {env : En} {σ : L2.St} {d : D} {v : V} (re : Re K y dr F env σ H) {i : Nat} {s : Sl} (e1 : env[i]? = some s) (e2 : s.dat = some d) (e3 : σ[i]? = some (some v)) : ∃ a, v = .ref a := by
  obtain ⟨o, q1, q2⟩ := re.get e1
  have hw : s.own = true := by cases s <;> first | rfl | cases e2
  obtain ⟨a, ea, _⟩ := q2.there hw
  rw [e3] at q1; cases q1
  cases ea
  exact ⟨a, rfl⟩
theorem vr_none {K : Fg} {y : Cy} {dr : Option Addr} {F H : Hp} {env : En} {σ : L2.St} {d : D} {v : V} (re : Re K y dr F env σ H) (w : Vr K b F env σ d v) : decide (v = .non) = isN d := by
  rcases w with w | ⟨_, i, s, e1, e2, e3⟩
  · cases w <;> rfl
  · obtain ⟨a, rfl⟩ := vr_ref re e1 e2 e3
    cases s <;> cases e2 <;> rfl
def isD (x z : D) : Option D := match z with
  | .none => some (.bool (isN x))
  | .bool j => match x with
    | .bool i => some (.bool (decide (i = j)))
    | _ => none
  | _ => none
def isnD (x z : D) : Option D := match z with
  | .none => some (.bool (!isN x))
  | .bool j => match x with
    | .bool i => some (.bool (!decide (i = j)))
    | _ => none
  | _ => none
theorem c_is : CmpOk X b .Is isD := by
  refine ⟨_, op_isN.or op_is_bl, ?_⟩
  intro y dr F env σ H d1 d2 d v1 v2 Q re w1 w2 e k
  unfold isD at e
  split at e
  · cases e
    refine .inl ⟨w2.none, ?_⟩
    rw [vr_none re w1]
    exact k _ H F re Ex.refl (.bl _)
  · split at e
    · cases e
      exact .inr ⟨_, _, w1.bool, w2.bool, k _ H F re Ex.refl (.bl _)⟩
    · cases e
  · cases e
theorem c_isn : CmpOk X b .IsNot isnD := by
  refine ⟨_, op_notN.or op_isnot_bl, ?_⟩
  intro y dr F env σ H d1 d2 d v1 v2 Q re w1 w2 e k
  unfold isnD at e
  split at e
  · cases e
    refine .inl ⟨w2.none, ?_⟩
    rw [vr_none re w1]
    exact k _ H F re Ex.refl (.bl _)
  · split at e
    · cases e
      exact .inr ⟨_, _, w1.bool, w2.bool, k _ H F re Ex.refl (.bl _)⟩
    · cases e
  · cases e
/-! a chain of two -/
def sChain (f g : D → D → Option D) (ma mc me : SE) : SE := fun env Q => ma env fun x => mc env fun z => ob (f x z) fun t => match t with
  | .bool true => me env fun w => ob (g z w) Q
  | .bool false => Q (.bool false)
  | _ => False
theorem chain_mono {f g : D → D → Option D} (ha : ME X b a ma) (hc : ME X b c mc) (he : ME X b e me) (env : En) (P Q : D → Prop) (k : ∀ d, P d → Q d) (h : sChain f g ma mc me env P) : sChain f g ma mc me env Q := by
  refine ha.mono _ _ _ (fun _ h1 => hc.mono _ _ _ (fun _ h2 => ob_mono (fun t h3 => ?_) h2) h1) h
  split at h3
  · exact he.mono _ _ _ (fun _ h4 => ob_mono k h4) h3
  · exact k _ h3
  · exact h3
theorem chain_red {f g : D → D → Option D} {r r' : R2} (ok : Ok2 X b f r) (ok' : Ok2 X b g r') (ha : ME X b a ma) (hc : ME X b c mc) (he : ME X b e me) {σ : L2.St} {H : Hp} {Q : VK} (h : lE X.G b' (sChain f g ma mc me) σ H Q) : tChain r r' (lE X.G b ma) (lE X.G b mc) (lE X.G b me) σ H Q := by
  obtain ⟨y, dr, F, env, re, hm⟩ := h
  refine ⟨y, dr, F, env, re, ha.mono _ _ _ (fun d1 h1 v1 H1 F1 r1 s1 w1 => ?_) hm⟩
  refine ⟨y, dr, F1, env, r1, hc.mono _ _ _ (fun d2 h2 v2 H2 F2 r2 s2 w2 => ?_) h1⟩
  cases q : f d1 d2 with
  | none => rw [q] at h2; exact h2.elim
  | some d =>
    rw [q] at h2
    refine ok y dr F2 env σ H2 d1 d2 d v1 v2 _ r2 (w1.mono s2) w2 q fun v H3 F3 r3 s3 w3 => ?_
    cases d with
    | bool t =>
      cases w3
      refine ⟨t, rfl, ?_⟩
      cases t with
      | true =>
        rw [if_pos rfl]
        refine ⟨y, dr, F3, env, r3, he.mono _ _ _ (fun d4 h4 v4 H4 F4 r4 s4 w4 => ?_) (show me env _ from h2)⟩
        cases q4 : g d2 d4 with
        | none => rw [q4] at h4; exact h4.elim
        | some d5 =>
          rw [q4] at h4
          exact ok' y dr F4 env σ H4 d2 d4 d5 v2 v4 Q r4 (w2.mono (s3.trans s4)) w4 q4 fun v H' F' r5 s5 w5 => h4 v H' F' r5 ((((s1.trans s2).trans s3).trans s4).trans s5) (.inl w5)
      | false =>
        rw [if_neg Bool.false_ne_true]
        exact (show _ from h2) _ H3 F3 r3 ((s1.trans s2).trans s3) (.inl (.bl _))
    | _ => exact h2.elim
theorem me_ch {op op' : CmpOp} {f g : D → D → Option D} (o : CmpOk X b op f) (o' : CmpOk X b op' g) (ha : ME X b a ma) (hc : ME X b c mc) (he : ME X b e me) (hm : lastMarks [op, op'] [c, e] = false := by with_unfolding_all rfl) : ME X b' (.Compare a [op, op'] [c, e] pos) (sChain f g ma mc me) := by
  obtain ⟨r, h1, h2⟩ := o.ex
  obtain ⟨r', h1', h2'⟩ := o'.ex
  exact ⟨⟨fun pins s σ H Q I h => (pe_chain h1 h1' ha.run hc.run he.run hm).run pins s σ H Q I (chain_red h2 h2' ha hc he h)⟩, chain_mono ha hc he⟩
theorem mt_ch {op op' : CmpOp} {f g : D → D → Option D} (o : CmpOk X b op f) (o' : CmpOk X b op' g) (ha : ME X b a ma) (hc : ME X b c mc) (he : ME X b e me) (hm : lastMarks [op, op'] [c, e] = false := by with_unfolding_all rfl) : MT X (.Compare a [op, op'] [c, e] pos) (sTB (sChain f g ma mc me)) := by
  obtain ⟨r, h1, h2⟩ := o.ex
  obtain ⟨r', h1', h2'⟩ := o'.ex
  exact ⟨⟨fun pins s σ H Q I h => (pt_chain h1 h1' ha.run hc.run he.run hm).run pins s σ H Q I (chain_red h2 h2' ha hc he (tb_red (chain_mono ha hc he) h))⟩, tb_mono (me_ch (b' := b) (pos := pos) o o' ha hc he hm)⟩
end
/-! ### truth -/
def tru : D → Option Bool
  | .none => some false
  | .bool c => some c
  | .int i => some (i != 0)
  | .str x => some ((x.length : Int) != 0)
  | .list xs => some (!xs.isEmpty)
  | .tuple xs => some (!xs.isEmpty)
  | .dict _ => none
def obB (o : Option Bool) (Q : Bool → Prop) : Prop := match o with
  | some d => Q d
  | none => False
def sTru (m : SE) : SB := fun env Q => m env fun d => obB (tru d) Q
section
variable {X : Cx} {b b' : Bool} {a c e : Expr} {ma mc me : SE} {ta tc : SB} {pos : Pos} {rest : List Expr}
theorem rvs_empty {K : Fg} {F : Hp} {xs : List D} {vs : List V} (r : Rvs K F xs vs) : vs.isEmpty = xs.isEmpty := by cases r <;> rfl
theorem tru_of {K : Fg} {y : Cy} {dr : Option Addr} {F H : Hp} {env : En} {σ : L2.St} {d : D} {v : V} {k : Bool} (re : Re K y dr F env σ H) (w : Vr K b F env σ d v) (h : tru d = some k) : TruV K v H k := by
  cases d with
  | none => cases h; rw [w.none]; rfl
  | bool c => cases h; rw [w.bool]; rfl
  | int c => cases h; rw [w.int]; rfl
  | str c => cases h; rw [w.str.1]; exact ⟨w.str.2, rfl⟩
  | list xs => cases h; obtain ⟨a, vs, rfl, h1, _, r⟩ := w.list re; exact .inl ⟨vs, SqL.of h1, by rw [rvs_empty r]⟩
  | tuple xs => cases h; obtain ⟨a, vs, rfl, h1, _, r⟩ := w.tuple re; exact .inr (.inl ⟨vs, re_tuple re h1, by rw [rvs_empty r]⟩)
  | dict _ => cases h
theorem obB_mono {o : Option Bool} {P Q : Bool → Prop} (k : ∀ d, P d → Q d) (h : obB o P) : obB o Q := by
  cases o with
  | none => exact h
  | some d => exact k d h
theorem mt_tru (ha : ME X true a ma) (he : ∀ whole, isTrue a X.env whole = (do let v ← whole; standAt a.pos; holding [v] (truthy v)) := by intro _; rfl) : MT X a (sTru ma) := by
  refine ⟨⟨fun pins s σ H Q I h => (pt_truth ha.run he).run pins s σ H Q I ?_⟩, fun env P Q k h => ha.mono _ _ _ (fun _ h1 => obB_mono k h1) h⟩
  obtain ⟨y, dr, F, env, re, hm⟩ := h
  refine ⟨y, dr, F, env, re, ha.mono _ _ _ (fun d hd v H' F' r1 s1 w => ?_) hm⟩
  cases q : tru d with
  | none => rw [q] at hd; exact hd.elim
  | some k =>
    rw [q] at hd
    exact ⟨k, tru_of r1 w q, hd H' F' r1 s1⟩
def sAnd (ta tc : SB) : SB := fun env Q => ta env fun k => if k = true then tc env Q else Q false
def sOr (ta tc : SB) : SB := fun env Q => ta env fun k => if k = true then Q true else tc env Q
def sNot (ta : SB) : SB := fun env Q => ta env fun k => Q (!k)
structure MW (X : Cx) (e : Expr) (m : SB) : Prop where
  run : PW X e (lT X.G m)
  mono : ∀ env (P Q : Bool → Prop), (∀ d, P d → Q d) → m env P → m env Q
theorem mt_w (h : MW X a ta) : MT X a ta := ⟨h.run.pt, h.mono⟩
theorem mw_and1 (ha : MT X a ta) : MW X (.BoolOp .And [a] pos) ta := ⟨pw_and1 ha.run, ha.mono⟩
theorem mw_or1 (ha : MT X a ta) : MW X (.BoolOp .Or [a] pos) ta := ⟨pw_or1 ha.run, ha.mono⟩
theorem mw_and (ha : MT X a ta) (hc : MW X (.BoolOp .And (c :: rest) pos) tc) : MW X (.BoolOp .And (a :: c :: rest) pos) (sAnd ta tc) := by
  refine ⟨⟨fun wh pins s σ H Q I h => (pw_and ha.run hc.run).run wh pins s σ H Q I ?_⟩, fun env P Q k h => ha.mono _ _ _ (fun d h1 => ?_) h⟩
  · obtain ⟨y, dr, F, env, re, hm⟩ := h
    refine ⟨y, dr, F, env, re, ha.mono _ _ _ (fun d hd H' F' r1 s1 => ?_) hm⟩
    cases d with
    | true => rw [if_pos rfl] at hd ⊢; exact ⟨y, dr, F', env, r1, hc.mono _ _ _ (fun d2 h2 H2 F2 r2 s2 => h2 H2 F2 r2 (s1.trans s2)) hd⟩
    | false => rw [if_neg Bool.false_ne_true] at hd ⊢; exact hd H' F' r1 s1
  · cases d with
    | true => rw [if_pos rfl] at h1 ⊢; exact hc.mono _ _ _ k h1
    | false => rw [if_neg Bool.false_ne_true] at h1 ⊢; exact k _ h1
theorem mw_or (ha : MT X a ta) (hc : MW X (.BoolOp .Or (c :: rest) pos) tc) : MW X (.BoolOp .Or (a :: c :: rest) pos) (sOr ta tc) := by
  refine ⟨⟨fun wh pins s σ H Q I h => (pw_or ha.run hc.run).run wh pins s σ H Q I ?_⟩, fun env P Q k h => ha.mono _ _ _ (fun d h1 => ?_) h⟩
  · obtain ⟨y, dr, F, env, re, hm⟩ := h
    refine ⟨y, dr, F, env, re, ha.mono _ _ _ (fun d hd H' F' r1 s1 => ?_) hm⟩
    cases d with
    | false => rw [if_neg Bool.false_ne_true] at hd ⊢; exact ⟨y, dr, F', env, r1, hc.mono _ _ _ (fun d2 h2 H2 F2 r2 s2 => h2 H2 F2 r2 (s1.trans s2)) hd⟩
    | true => rw [if_pos rfl] at hd ⊢; exact hd H' F' r1 s1
  · cases d with
    | false => rw [if_neg Bool.false_ne_true] at h1 ⊢; exact hc.mono _ _ _ k h1
    | true => rw [if_pos rfl] at h1 ⊢; exact k _ h1
theorem mt_not (ha : MT X a ta) : MT X (.UnaryOp .Not a pos) (sNot ta) := by
  refine ⟨⟨fun pins s σ H Q I h => (pt_not ha.run).run pins s σ H Q I ?_⟩, fun env P Q k h => ha.mono _ _ _ (fun d h1 => k _ h1) h⟩
  obtain ⟨y, dr, F, env, re, hm⟩ := h
  exact ⟨y, dr, F, env, re, ha.mono _ _ _ (fun d hd H' F' r1 s1 => hd H' F' r1 s1) hm⟩
/-! as values: by truth -/
def sAndV (ma mc : SE) : SE := fun env Q => ma env fun x => obB (tru x) fun k => if k = true then mc env Q else Q x
def sOrV (ma mc : SE) : SE := fun env Q => ma env fun x => obB (tru x) fun k => if k = true then Q x else mc env Q
def sNotV (ma : SE) : SE := fun env Q => ma env fun x => obB (tru x) fun k => Q (.bool (!k))
theorem me_one {op} (h : ME X b a ma) : ME X b (.BoolOp op [a] pos) ma := ⟨pe_one h.run, h.mono⟩
theorem me_and (ha : ME X b a ma) (hc : ME X b (.BoolOp .And (c :: rest) pos) mc) : ME X b (.BoolOp .And (a :: c :: rest) pos) (sAndV ma mc) := by
  refine ⟨⟨fun pins s σ H Q I h => (pe_andT ha.run hc.run).run pins s σ H Q I ?_⟩, fun env P Q k h => ha.mono _ _ _ (fun d h1 => obB_mono (fun t ht => ?_) h1) h⟩
  · obtain ⟨y, dr, F, env, re, hm⟩ := h
    refine ⟨y, dr, F, env, re, ha.mono _ _ _ (fun d hd v H' F' r1 s1 w => ?_) hm⟩
    cases q : tru d with
    | none => rw [q] at hd; exact hd.elim
    | some k =>
      rw [q] at hd
      refine ⟨k, tru_of r1 w q, ?_⟩
      cases k with
      | true => rw [if_pos rfl]; exact ⟨y, dr, F', env, r1, hc.mono _ _ _ (fun d2 h2 v2 H2 F2 r2 s2 w2 => h2 v2 H2 F2 r2 (s1.trans s2) w2) (show mc env _ from hd)⟩
      | false => rw [if_neg Bool.false_ne_true]; exact (show _ from hd) v H' F' r1 s1 w
  · cases t with
    | true => rw [if_pos rfl] at ht ⊢; exact hc.mono _ _ _ k ht
    | false => rw [if_neg Bool.false_ne_true] at ht ⊢; exact k _ ht
theorem me_or (ha : ME X b a ma) (hc : ME X b (.BoolOp .Or (c :: rest) pos) mc) : ME X b (.BoolOp .Or (a :: c :: rest) pos) (sOrV ma mc) := by
  refine ⟨⟨fun pins s σ H Q I h => (pe_orT ha.run hc.run).run pins s σ H Q I ?_⟩, fun env P Q k h => ha.mono _ _ _ (fun d h1 => obB_mono (fun t ht => ?_) h1) h⟩
  · obtain ⟨y, dr, F, env, re, hm⟩ := h
    refine ⟨y, dr, F, env, re, ha.mono _ _ _ (fun d hd v H' F' r1 s1 w => ?_) hm⟩
    cases q : tru d with
    | none => rw [q] at hd; exact hd.elim
    | some k =>
      rw [q] at hd
      refine ⟨k, tru_of r1 w q, ?_⟩
      cases k with
      | false => rw [if_neg Bool.false_ne_true]; exact ⟨y, dr, F', env, r1, hc.mono _ _ _ (fun d2 h2 v2 H2 F2 r2 s2 w2 => h2 v2 H2 F2 r2 (s1.trans s2) w2) (show mc env _ from hd)⟩
      | true => rw [if_pos rfl]; exact (show _ from hd) v H' F' r1 s1 w
  · cases t with
    | false => rw [if_neg Bool.false_ne_true] at ht ⊢; exact hc.mono _ _ _ k ht
    | true => rw [if_pos rfl] at ht ⊢; exact k _ ht
theorem me_not (ha : ME X true a ma) : ME X b (.UnaryOp .Not a pos) (sNotV ma) := by
  refine ⟨⟨fun pins s σ H Q I h => (pe_notT ha.run).run pins s σ H Q I ?_⟩, fun env P Q k h => ha.mono _ _ _ (fun d h1 => obB_mono (fun t ht => k _ ht) h1) h⟩
  obtain ⟨y, dr, F, env, re, hm⟩ := h
  refine ⟨y, dr, F, env, re, ha.mono _ _ _ (fun d hd v H' F' r1 s1 w => ?_) hm⟩
  cases q : tru d with
  | none => rw [q] at hd; exact hd.elim
  | some k =>
    rw [q] at hd
    exact ⟨k, tru_of r1 w q, (show _ from hd) _ H' F' r1 s1 (.inl (.bl _))⟩
def sIf (t : SB) (ma mc : SE) : SE := fun env Q => t env fun k => if k = true then ma env Q else mc env Q
theorem me_if {t : Expr} {tt : SB} (ht : MT X t tt) (ha : ME X b a ma) (hc : ME X b c mc) : ME X b (.IfExp t a c pos) (sIf tt ma mc) := by
  refine ⟨⟨fun pins s σ H Q I h => (pe_ifExp ht.run ha.run hc.run).run pins s σ H Q I ?_⟩, fun env P Q k h => ht.mono _ _ _ (fun d h1 => ?_) h⟩
  · obtain ⟨y, dr, F, env, re, hm⟩ := h
    refine ⟨y, dr, F, env, re, ht.mono _ _ _ (fun d hd H' F' r1 s1 => ?_) hm⟩
    cases d with
    | true => rw [if_pos rfl] at hd ⊢; exact ⟨y, dr, F', env, r1, ha.mono _ _ _ (fun d2 h2 v2 H2 F2 r2 s2 w2 => h2 v2 H2 F2 r2 (s1.trans s2) w2) hd⟩
    | false => rw [if_neg Bool.false_ne_true] at hd ⊢; exact ⟨y, dr, F', env, r1, hc.mono _ _ _ (fun d2 h2 v2 H2 F2 r2 s2 w2 => h2 v2 H2 F2 r2 (s1.trans s2) w2) hd⟩
  · cases d with
    | true => rw [if_pos rfl] at h1 ⊢; exact ha.mono _ _ _ k h1
    | false => rw [if_neg Bool.false_ne_true] at h1 ⊢; exact hc.mono _ _ _ k h1
/-! ### rows of values, tuples, lists -/
def sNil : SA := fun _ Q => Q []
def sCons (m : SE) (r : SA) : SA := fun env Q => m env fun d => r env fun ds => Q (d :: ds)
theorem ma_nil : MA X b [] sNil := by
  refine ⟨⟨fun pos pins s σ H Q I h => pa_nil.run pos pins s σ H Q I ?_⟩, fun env P Q k h => k _ h, fun env P h => ⟨rfl, h⟩⟩
  obtain ⟨y, dr, F, env, re, hm⟩ := h
  exact hm [] H F re Ex.refl .nil
theorem paired_mono {α β : Type} {F G : α → β → Prop} (h : ∀ a b, F a b → G a b) : ∀ {l : List α} {m : List β}, Paired F l m → Paired G l m
  | _, _, .nil => .nil
  | _, _, .cons a b => .cons (h _ _ a) (paired_mono h b)
theorem ma_cons {es : List Expr} {mr : SA} (ha : ME X b e me) (hr : MA X b es mr) (hs : starEach (e :: es) X.env = (false, eval e X.env) :: starEach es X.env := by rfl) : MA X b (e :: es) (sCons me mr) := by
  refine ⟨⟨fun pos pins s σ H Q I h => (pa_cons ha.run hr.run hs).run pos pins s σ H Q I ?_⟩, fun env P Q k h => ha.mono _ _ _ (fun d h1 => hr.mono _ _ _ (fun ds h2 => k _ h2) h1) h,
    fun env P h => ha.mono _ _ _ (fun d h1 => hr.mono _ _ _ (fun ds h2 => ⟨congrArg (· + 1) h2.1, h2.2⟩) (hr.len _ _ h1)) h⟩
  obtain ⟨y, dr, F, env, re, hm⟩ := h
  refine ⟨y, dr, F, env, re, ha.mono _ _ _ (fun d hd v H1 F1 r1 s1 w1 => ?_) hm⟩
  exact ⟨y, dr, F1, env, r1, hr.mono _ _ _ (fun ds hds vs H2 F2 r2 s2 w2 => hds (v :: vs) H2 F2 r2 (s1.trans s2) (.cons (w1.mono s2) w2)) hd⟩
theorem rvs_of {K : Fg} {F : Hp} {env : En} {σ : L2.St} : ∀ {ds : List D} {vs : List V}, Paired (Vr K false F env σ) ds vs → Rvs K F ds vs
  | _, _, .nil => .nil
  | _, _, .cons a b => .cons a.rv (rvs_of b)
def sTup (m : SA) : SE := fun env Q => m env fun ds => Q (.tuple ds)
theorem me_tup {es : List Expr} {m : SA} {x1} (h : MA X false es m) (hl : Nat.ble es.length 1000 = true := by rfl) : ME X b (.Tuple es x1 pos) (sTup m) := by
  refine ⟨⟨fun pins s σ H Q I hq => (pe_tupP h.run).run pins s σ H Q I ?_⟩, fun env P Q k hp => h.mono _ _ _ (fun d h1 => k _ h1) hp⟩
  obtain ⟨y, dr, F, env, re, hm⟩ := hq
  refine ⟨y, dr, F, env, re, h.mono _ _ _ (fun ds hd vs H1 F1 r1 s1 w1 => ?_) (h.len _ _ hm)⟩
  have r := rvs_of w1
  have hz : ds.length ≤ sizeLine := by have := Nat.le_of_ble_eq_true hl; rw [hd.1, sizeLine_eq]; omega
  refine ⟨by rw [← r.length]; exact hz, fun p o t hp => ?_⟩
  exact hd.2 _ _ _ (r1.laid hp) (s1.trans (r1.ex hp)) (.inl (Rv.tupNew (r1.nF hp) t hz r))
end
end Mi

namespace Mi
open PySem PySem.Spec L2
/-! ### new lists -/
/-- the object at p is nobody's yet -/
structure Free (y : Cy) (dr : Option Addr) (F : Hp) (env : En) (σ : L2.St) (p : Addr) : Prop where
  nF : F p = none
  nH : y.H0 p = none
  nd : some p ≠ dr
  no : ∀ (i : Nat) (s : Sl), env[i]? = some s → s.own = true → σ[i]? ≠ some (some (.ref p))
section
variable {K : Fg} {y : Cy} {dr : Option Addr} {F H : Hp} {env : En} {σ : L2.St} {p : Addr} {o : HO}
theorem Re.free (re : Re K y dr F env σ H) (hp : H p = none) : Free y dr F env σ p := by
  refine ⟨re.nF hp, ?_, ?_, fun i s h1 h2 h3 => ?_⟩
  · cases q : y.H0 p with
    | none => rfl
    | some u => exact absurd hp (re.rf.dom p (by rw [q]; simp))
  · intro e
    obtain ⟨_, _, _, _, _, _, q, _⟩ := re.rf.drw p e.symm
    rw [hp] at q; cases q
  · obtain ⟨a, e1, e2, _⟩ := (re.slot i s _ h1 h3).there h2
    cases e1
    exact e2 hp
theorem Re.freeze (re : Re K y dr F env σ H) (fr : Free y dr F env σ p) (hp : H p = some o) : Re K y dr (upd F p o) env σ H := by
  have sF : Same F (upd F p o) := upd_grow fr.nF
  refine ⟨⟨fun b u e => ?_, re.rf.sup.trans sF, fun b hb => ?_, re.rf.gr, re.rf.dom, fun b hb => ?_, re.rf.drs, re.rf.drn⟩, re.len, fun i s o' h1 h2 => (re.slot i s o' h1 h2).keep sF fun a ha w => ?_, re.sep⟩
  · by_cases hbp : b = p
    · subst hbp; rw [upd_same] at e; cases e; exact hp
    · rw [upd_ne hbp] at e; exact re.rf.sub _ _ e
  · by_cases hbp : b = p
    · subst hbp; exact .inr fr.nH
    · rw [upd_ne hbp] at hb; exact re.rf.new b hb
  · obtain ⟨h1, h2⟩ := re.rf.drw b hb
    have hbp : b ≠ p := fun e => fr.nd (by rw [← e]; exact hb.symm)
    exact ⟨by rw [upd_ne hbp]; exact h1, h2.mono sF⟩
  · have ne : a ≠ p := fun e => fr.no i s h1 w (by rw [h2, ha, e])
    obtain ⟨c, e1, _, e3, e4, _⟩ := (re.slot i s o' h1 h2).there w
    rw [ha] at e1; cases e1
    exact ⟨rfl, by rw [upd_ne ne]; exact e3, e4⟩
end
abbrev SL := En → (List D → Prop) → Prop
def lF (K : Fg) (m : SL) : TE := fun σ H Q => ∃ y dr F env, Re K y dr F env σ H ∧ m env fun xs => ∀ p vs H' F', Re K y dr F' env σ H' → Ex dr F H F' H' → H' p = some (.lst vs) → Free y dr F' env σ p → Rvs K F' xs vs → xs.length ≤ sizeLine → Q (.ref p) H'
structure MF (X : Cx) (e : Expr) (m : SL) : Prop where
  run : PE X e (lF X.G m)
  mono : ∀ env (P Q : List D → Prop), (∀ d, P d → Q d) → m env P → m env Q
def sFr (m : SL) : SE := fun env Q => m env fun xs => Q (.list xs)
section
variable {X : Cx} {b b' : Bool} {a c e : Expr} {ma mc me : SE} {pos : Pos}
/-- a new list that is never changed -/
theorem me_f {m : SL} (h : MF X e m) : ME X b e (sFr m) := by
  refine ⟨⟨fun pins s σ H Q I hq => h.run.run pins s σ H Q I ?_⟩, fun env P Q k hp => h.mono _ _ _ (fun d h1 => k _ h1) hp⟩
  obtain ⟨y, dr, F, env, re, hm⟩ := hq
  refine ⟨y, dr, F, env, re, h.mono _ _ _ (fun xs hd p vs H' F' r1 s1 hp fr rv hz => ?_) hm⟩
  exact hd _ H' _ (r1.freeze fr hp) (s1.trans (Ex.fz fr.nF)) (.inl (Rv.lstNew fr.nF hz rv))
/-- the state behind a new list -/
theorem new_lst {K : Fg} {y : Cy} {dr : Option Addr} {F H : Hp} {env : En} {σ : L2.St} {p : Addr} {vs : List V} {xs : List D} {Q : VK} {F0 H0 : Hp} (r1 : Re K y dr F env σ H) (s1 : Ex dr F0 H0 F H) (hp : H p = none) (rv : Rvs K F xs vs) (hz : xs.length ≤ sizeLine)
    (k : ∀ p vs H' F', Re K y dr F' env σ H' → Ex dr F0 H0 F' H' → H' p = some (.lst vs) → Free y dr F' env σ p → Rvs K F' xs vs → xs.length ≤ sizeLine → Q (.ref p) H') : Q (.ref p) (upd H p (.lst vs)) :=
  k p vs _ F (r1.grown hp) (s1.trans (Ex.grown hp)) upd_same (r1.free hp) rv hz
def sItems (m : SA) : SL := fun env Q => m env Q
theorem mf_lst {es : List Expr} {m : SA} (h : MA X false es m) (hl : Nat.ble es.length 1000 = true := by rfl) : MF X (.List es pos) (sItems m) := by
  refine ⟨⟨fun pins s σ H Q I hq => (pe_lst h.run).run pins s σ H Q I ?_⟩, fun env P Q k hp => h.mono _ _ _ (fun d h1 => k _ h1) hp⟩
  obtain ⟨y, dr, F, env, re, hm⟩ := hq
  refine ⟨y, dr, F, env, re, h.mono _ _ _ (fun ds hd vs H1 F1 r1 s1 w1 => ?_) (h.len _ _ hm)⟩
  have r := rvs_of w1
  have hz : ds.length ≤ sizeLine := by have := Nat.le_of_ble_eq_true hl; rw [hd.1, sizeLine_eq]; omega
  exact ⟨by rw [← r.length]; exact hz, fun p hp => new_lst r1 s1 hp r hz hd.2⟩
/-! ### subscripts -/
def ixD (x i : D) : Option D := match x, i with
  | .list xs, .int i => atI xs i
  | .tuple xs, .int i => atI xs i
  | .str x, .int i => (atI x.cps.toList i).map fun c => .str ⟨#[c]⟩
  | _, _ => none
theorem rvs_at {K : Fg} {F : Hp} {xs : List D} {vs : List V} {i : Int} {d : D} (r : Rvs K F xs vs) (h : atI xs i = some d) : ∃ v, atI vs i = some v ∧ Rv K F d v := by
  unfold atI at h ⊢
  rw [← r.length]
  cases q : ixN xs.length i with
  | none => rw [q] at h; cases h
  | some j =>
    rw [q] at h
    exact r.get h
theorem ok_ix : Ok2 X b ixD (rIx X.G) := by
  intro y dr F env σ H d1 d2 d v1 v2 Q re w1 w2 e k
  unfold ixD at e
  split at e
  · obtain ⟨a1, vs, rfl, h1, z1, r1⟩ := w1.list re
    obtain ⟨v, hv, rv⟩ := rvs_at r1 e
    exact .inl ⟨a1, vs, _, v, rfl, w2.int, SqL.of h1, hv, k _ H F re Ex.refl rv⟩
  · obtain ⟨a1, vs, rfl, h1, z1, r1⟩ := w1.tuple re
    obtain ⟨v, hv, rv⟩ := rvs_at r1 e
    exact .inr (.inl ⟨a1, vs, _, v, rfl, w2.int, re_tuple re h1, hv, k _ H F re Ex.refl rv⟩)
  · rename_i x i
    cases q : atI x.cps.toList i with
    | none => rw [q] at e; cases e
    | some c =>
      rw [q] at e
      cases e
      exact .inr (.inr ⟨x, i, c, w1.str.1, w2.int, w1.str.2, q, k _ H F re Ex.refl (.str _ (by show 1 ≤ sizeLine; rw [sizeLine_eq]; decide))⟩)
  · cases e
theorem me_ix (ha : ME X true a ma) (hc : ME X true c mc) (hs : PlainIx c := by exact fun _ _ => rfl) : ME X b' (.Subscript a c pos) (sOp ixD ma mc) :=
  ⟨⟨fun pins s σ H Q I h => (pe_ix ix_seq ha.run hc.run hs).run pins s σ H Q I (op_red ok_ix ha hc h)⟩, op_mono ha hc⟩
/-! slices -/
def cut {α : Type} (xs : List α) (lo hi : Option Int) : List α := (xs.drop (HT.sIx xs.length 0 lo)).take (HT.sIx xs.length xs.length hi - HT.sIx xs.length 0 lo)
theorem rvs_cut {K : Fg} {F : Hp} {xs : List D} {vs : List V} (r : Rvs K F xs vs) (lo hi : Option Int) : Rvs K F (cut xs lo hi) (cutV vs lo hi) := by
  unfold cut cutV
  rw [r.length]
  exact (r.drop _).take _
theorem cut_len {α : Type} (xs : List α) (lo hi : Option Int) : (cut xs lo hi).length ≤ xs.length := by
  unfold cut
  rw [List.length_take, List.length_drop]
  omega
abbrev SO := En → (Option Int → Prop) → Prop
def lO (K : Fg) (m : SO) : TO := fun σ H Q => ∃ y dr F env, Re K y dr F env σ H ∧ m env fun o => ∀ H' F', Re K y dr F' env σ H' → Ex dr F H F' H' → Q o H'
structure MO (X : Cx) (e : Option Expr) (m : SO) : Prop where
  run : PO X e (lO X.G m)
  mono : ∀ env (P Q : Option Int → Prop), (∀ d, P d → Q d) → m env P → m env Q
def sNo : SO := fun _ Q => Q none
def sPart (m : SE) : SO := fun env Q => m env fun d => match d with
  | .int i => Q (some i)
  | _ => False
theorem mo_none : MO X none sNo := by
  refine ⟨⟨fun pins s σ H Q I h => po_none.run pins s σ H Q I ?_⟩, fun env P Q k h => k _ h⟩
  obtain ⟨y, dr, F, env, re, hm⟩ := h
  exact hm H F re Ex.refl
theorem mo_some (ha : ME X true a ma) : MO X (some a) (sPart ma) := by
  refine ⟨⟨fun pins s σ H Q I h => (po_some ha.run).run pins s σ H Q I ?_⟩, fun env P Q k h => ha.mono _ _ _ (fun d h1 => by cases d <;> first | exact k _ h1 | exact h1) h⟩
  obtain ⟨y, dr, F, env, re, hm⟩ := h
  refine ⟨y, dr, F, env, re, ha.mono _ _ _ (fun d hd v H' F' r1 s1 w => ?_) hm⟩
  cases d with
  | int i => exact ⟨i, w.int, hd H' F' r1 s1⟩
  | _ => exact hd.elim
def slD (x : D) (lo hi : Option Int) : Option D := match x with
  | .list xs => some (.list (cut xs lo hi))
  | .tuple xs => some (.tuple (cut xs lo hi))
  | .str x => some (.str (cutS x lo hi))
  | _ => none
def sSl (m : SE) (l h : SO) : SE := fun env Q => m env fun x => l env fun lo => h env fun hi => ob (slD x lo hi) Q
theorem cut_whole {α : Type} (xs : List α) (lo hi : Option Int) (h : HT.sIx xs.length 0 lo = 0 ∧ HT.sIx xs.length xs.length hi = xs.length) : cut xs lo hi = xs := by
  unfold cut
  rw [h.1, h.2]
  simp
theorem me_sl {lo hi : Option Expr} {ml mh : SO} {p2 : Pos} (ha : ME X true a ma) (hl : MO X lo ml) (hh : MO X hi mh) : ME X b (.Subscript a (.Slice lo hi none p2) pos) (sSl ma ml mh) := by
  refine ⟨⟨fun pins s σ H Q I h => (pe_slice (sl_list.or (sl_tupP.or sl_str)) ha.run hl.run hh.run).run pins s σ H Q I ?_⟩, fun env P Q k h => ha.mono _ _ _ (fun _ h1 => hl.mono _ _ _ (fun _ h2 => hh.mono _ _ _ (fun _ h3 => ob_mono k h3) h2) h1) h⟩
  obtain ⟨y, dr, F, env, re, hm⟩ := h
  refine ⟨y, dr, F, env, re, ha.mono _ _ _ (fun d h1 v H1 F1 r1 s1 w1 => ?_) hm⟩
  refine ⟨y, dr, F1, env, r1, hl.mono _ _ _ (fun l h2 H2 F2 r2 s2 => ?_) h1⟩
  refine ⟨y, dr, F2, env, r2, hh.mono _ _ _ (fun u h3 H3 F3 r3 s3 => ?_) h2⟩
  have w3 := (w1.mono s2).mono s3
  have s13 := (s1.trans s2).trans s3
  unfold slD at h3
  split at h3
  · obtain ⟨a1, vs, rfl, e1, z1, rv⟩ := w3.list r3
    refine .inl ⟨a1, vs, rfl, SqL.of e1, fun p hp => ?_⟩
    exact h3 _ _ _ (r3.laid hp) (s13.trans (r3.ex hp)) (.inl (Rv.lstNew (r3.nF hp) (Nat.le_trans (cut_len _ _ _) z1) (rvs_cut rv l u)))
  · obtain ⟨a1, vs, rfl, e1, z1, rv⟩ := w3.tuple r3
    refine .inr (.inl ⟨a1, vs, rfl, re_tuple r3 e1, fun hw => ?_, fun _ p o t hp => ?_⟩)
    · rw [← rv.length] at hw
      rw [cut_whole _ _ _ hw] at h3
      exact h3 _ _ _ r3 s13 (.inl (.tup e1 z1 rv))
    · exact h3 _ _ _ (r3.laid hp) (s13.trans (r3.ex hp)) (.inl (Rv.tupNew (r3.nF hp) t (Nat.le_trans (cut_len _ _ _) z1) (rvs_cut rv l u)))
  · exact .inr (.inr ⟨_, w3.str.1, w3.str.2, h3 _ _ _ r3 s13 (.inl (.str _ (Nat.le_trans (cutS_length _ _ _) w3.str.2)))⟩)
  · exact h3.elim
/-! ### built-ins of one argument -/
def OkC (X : Cx) (b : Bool) (f : D → Option D) (r : List V → Hp → VK → Prop) : Prop := ∀ (y : Cy) (dr : Option Addr) (F : Hp) (env : En) (σ : L2.St) (H : Hp) (d1 d : D) (v1 : V) (Q : VK), Re X.G y dr F env σ H → Vr X.G b F env σ d1 v1 → f d1 = some d →
  (∀ v H' F', Re X.G y dr F' env σ H' → Ex dr F H F' H' → Rv X.G F' d v → Q v H') → r [v1] H Q
theorem call_red {f : D → Option D} {r : List V → Hp → VK → Prop} (ok : OkC X b f r) (ha : ME X b a ma) {σ : L2.St} {H : Hp} {Q : VK} (h : lE X.G b' (sUn f ma) σ H Q) : tCB r (tCons (lE X.G b ma) tNil) σ H Q := by
  obtain ⟨y, dr, F, env, re, hm⟩ := h
  refine ⟨y, dr, F, env, re, ha.mono _ _ _ (fun d1 h1 v1 H1 F1 r1 s1 w1 => ?_) hm⟩
  cases q : f d1 with
  | none => rw [q] at h1; exact h1.elim
  | some d =>
    rw [q] at h1
    exact ok y dr F1 env σ H1 d1 d v1 Q r1 w1 q fun v H' F' r2 s2 w2 => h1 v H' F' r2 (s1.trans s2) (.inl w2)
theorem un_mono {f : D → Option D} (ha : ME X b a ma) (env : En) (P Q : D → Prop) (k : ∀ d, P d → Q d) (h : sUn f ma env P) : sUn f ma env Q := ha.mono _ _ _ (fun _ h1 => ob_mono k h1) h
theorem me_B {x : Str} {p : Pos} {id : String} {f : D → Option D} {r : List V → Hp → VK → Prop} (hc : CallR X (.builtin id) r) (ok : OkC X b f r) (hg : Gl X x) (hm : X.mg x = none) (hv : bootBuiltins x = some (.builtin id)) (ha : ME X b a ma)
    (hn : x ≠ "__name__") (hdb : (x == ("__debug__" : Str)) = false)
    (he : starEach [a] X.env = (false, eval a X.env) :: starEach [] X.env) (hpl : (backTo pos (starEach [] X.env)).any (·.1) = false := by rfl) : ME X b' (.Call (.Name x p) [a] [] pos) (sUn f ma) :=
  ⟨⟨fun pins s σ H Q I h => (pe_callB hc hg hm hv (pa_cons ha.run pa_nil he) hn hdb he hpl).run pins s σ H Q I (call_red ok ha h)⟩, un_mono ha⟩
theorem me_T {x : Str} {p : Pos} {id : String} {f : D → Option D} {r : List V → Hp → VK → Prop} (hc : CallR X (.type id) r) (ok : OkC X b f r) (hg : Gl X x) (hm : X.mg x = none) (hv : bootBuiltins x = some (.type id)) (ha : ME X b a ma)
    (hn : x ≠ "__name__") (hdb : (x == ("__debug__" : Str)) = false)
    (he : starEach [a] X.env = (false, eval a X.env) :: starEach [] X.env) (hpl : (backTo pos (starEach [] X.env)).any (·.1) = false := by rfl) : ME X b' (.Call (.Name x p) [a] [] pos) (sUn f ma) :=
  ⟨⟨fun pins s σ H Q I h => (pe_callTy hc hg hm hv (pa_cons ha.run pa_nil he) hn hdb he hpl).run pins s σ H Q I (call_red ok ha h)⟩, un_mono ha⟩
def lenD : D → Option D
  | .list xs => some (.int xs.length)
  | .tuple xs => some (.int xs.length)
  | .str x => some (.int x.length)
  | _ => none
theorem me_len {p : Pos} (hg : Gl X "len") (hm : X.mg "len" = none) (ha : ME X true a ma) (he : starEach [a] X.env = (false, eval a X.env) :: starEach [] X.env := by rfl) : ME X b' (.Call (.Name "len" p) [a] [] pos) (sUn lenD ma) := by
  refine me_B (b := true) (call_len_seq.or call_len_str) ?_ hg hm PySem.boot_len ha (by decide) (by decide) he
  intro y dr F env σ H d1 d v1 Q re w e k
  unfold lenD at e
  split at e
  · cases e
    obtain ⟨a1, vs, rfl, h1, z1, rv⟩ := w.list re
    exact .inl ⟨a1, vs, rfl, .inl (SqL.of h1), by rw [← rv.length]; exact k _ H F re Ex.refl (.int _)⟩
  · cases e
    obtain ⟨a1, vs, rfl, h1, z1, rv⟩ := w.tuple re
    exact .inl ⟨a1, vs, rfl, .inr (re_tuple re h1), by rw [← rv.length]; exact k _ H F re Ex.refl (.int _)⟩
  · cases e
    exact .inr ⟨_, by rw [w.str.1], w.str.2, k _ H F re Ex.refl (.int _)⟩
  · cases e
def absD : D → Option D
  | .int i => some (.int (if i < 0 then -i else i))
  | _ => none
theorem me_abs {p : Pos} (hg : Gl X "abs") (hm : X.mg "abs" = none) (ha : ME X true a ma) (he : starEach [a] X.env = (false, eval a X.env) :: starEach [] X.env := by rfl) : ME X b' (.Call (.Name "abs" p) [a] [] pos) (sUn absD ma) := by
  refine me_B (b := true) call_abs ?_ hg hm (by decide +kernel) ha (by decide) (by decide) he
  intro y dr F env σ H d1 d v1 Q re w e k
  unfold absD at e
  split at e
  · cases e
    exact ⟨_, by rw [w.int], k _ H F re Ex.refl (.int _)⟩
  · cases e
def intD : D → Option D
  | .int i => some (.int i)
  | .bool c => some (.int (if c then 1 else 0))
  | _ => none
theorem me_intc {p : Pos} (hg : Gl X "int") (hm : X.mg "int" = none) (ha : ME X true a ma) (he : starEach [a] X.env = (false, eval a X.env) :: starEach [] X.env := by rfl) : ME X b' (.Call (.Name "int" p) [a] [] pos) (sUn intD ma) := by
  refine me_T (b := true) call_int1 ?_ hg hm (by decide +kernel) ha (by decide) (by decide) he
  intro y dr F env σ H d1 d v1 Q re w e k
  unfold intD at e
  split at e
  · cases e
    exact .inl ⟨_, by rw [w.int], k _ H F re Ex.refl (.int _)⟩
  · cases e
    exact .inr ⟨_, by rw [w.bool], k _ H F re Ex.refl (.int _)⟩
  · cases e
/-- a list of ints, of bools -/
def intsOf : List D → Option (List Int)
  | [] => some []
  | .int i :: r => (intsOf r).map fun l => i :: l
  | _ :: _ => none
def boolsOf : List D → Option (List Bool)
  | [] => some []
  | .bool i :: r => (boolsOf r).map fun l => i :: l
  | _ :: _ => none
theorem intsOf_eq : ∀ {xs : List D} {ns : List Int}, intsOf xs = some ns → xs = ns.map PyData.int
  | [], ns, h => by cases h; rfl
  | d :: r, ns, h => by
    cases d with
    | int i =>
      unfold intsOf at h
      cases q : intsOf r with
      | none => rw [q] at h; cases h
      | some l => rw [q] at h; cases h; rw [intsOf_eq q]; rfl
    | _ => cases h
theorem boolsOf_eq : ∀ {xs : List D} {ns : List Bool}, boolsOf xs = some ns → xs = ns.map PyData.bool
  | [], ns, h => by cases h; rfl
  | d :: r, ns, h => by
    cases d with
    | bool i =>
      unfold boolsOf at h
      cases q : boolsOf r with
      | none => rw [q] at h; cases h
      | some l => rw [q] at h; cases h; rw [boolsOf_eq q]; rfl
    | _ => cases h
theorem intsOf_map (ns : List Int) : intsOf (ns.map PyData.int) = some ns := by
  induction ns with
  | nil => rfl
  | cons n r ih => show (intsOf (r.map PyData.int)).map _ = _; rw [ih]; rfl
theorem boolsOf_map (ns : List Bool) : boolsOf (ns.map PyData.bool) = some ns := by
  induction ns with
  | nil => rfl
  | cons n r ih => show (boolsOf (r.map PyData.bool)).map _ = _; rw [ih]; rfl
theorem Rvs.bools {K : Fg} {F : Hp} : ∀ {ns : List Bool} {vs : List V}, Rvs K F (ns.map PyData.bool) vs → vs = ns.map V.bl
  | [], _, r => by cases r; rfl
  | n :: ns, _, r => by
    cases r with
    | cons a b => cases a; rw [Rvs.bools b]; rfl
def sumD : D → Option D
  | .list xs => (intsOf xs).map fun ns => .int ns.sum
  | .tuple xs => (intsOf xs).map fun ns => .int ns.sum
  | _ => none
theorem cr_sumT (hc : X.calm = true) : CallR X (.builtin "sum") (fun vs H Q => ∃ (a : Addr) (ns : List Int), vs = [V.ref a] ∧ SqT X.G H a (ns.map V.int) ∧ Q (.int ns.sum) H) := by
  intro pins s σ H vs us Q I r h
  obtain ⟨a, ns, rfl, hs, q⟩ := h
  obtain ⟨its, rv, hl, _⟩ := I.tuple hs
  rw [Vals.ref1 r]
  have hi := rv.ints
  obtain ⟨xs, e⟩ := hi.allInts.items
  have hn : numsOf (intItems xs).toList = ns := by rw [← e]; exact hi.numsOf
  rw [nums_intItems] at hn
  rw [e] at hl
  refine PySem.W.ktm_sumG (I.ok.hd hc) hl fun h' tk t' hk => ?_
  rw [preSum_eq, List.take_of_length_le (by simp), hn]
  exact ⟨.int _, H, I.kept hk, ⟨_, rfl⟩, q⟩
theorem me_sum {p : Pos} (hc : X.calm = true) (hg : Gl X "sum") (hm : X.mg "sum" = none) (ha : ME X true a ma) (he : starEach [a] X.env = (false, eval a X.env) :: starEach [] X.env := by rfl) : ME X b' (.Call (.Name "sum" p) [a] [] pos) (sUn sumD ma) := by
  refine me_B (b := true) ((cr_sum hc).or (cr_sumT hc)) ?_ hg hm (by decide +kernel) ha (by decide) (by decide) he
  intro y dr F env σ H d1 d v1 Q re w e k
  unfold sumD at e
  split at e
  · rename_i xs
    cases q : intsOf xs with
    | none => rw [q] at e; cases e
    | some ns =>
      rw [q] at e; cases e
      obtain ⟨a1, vs, rfl, h1, z1, rv⟩ := w.list re
      rw [intsOf_eq q] at rv
      rw [rv.ints] at h1
      exact .inl ⟨a1, ns, rfl, SqL.of h1, k _ H F re Ex.refl (.int _)⟩
  · rename_i xs
    cases q : intsOf xs with
    | none => rw [q] at e; cases e
    | some ns =>
      rw [q] at e; cases e
      obtain ⟨a1, vs, rfl, h1, z1, rv⟩ := w.tuple re
      rw [intsOf_eq q] at rv
      rw [rv.ints] at h1
      exact .inr ⟨a1, ns, rfl, re_tuple re h1, k _ H F re Ex.refl (.int _)⟩
  · cases e
def allD : D → Option D
  | .list xs => (boolsOf xs).map fun ns => .bool (ns.all id)
  | _ => none
def anyD : D → Option D
  | .list xs => (boolsOf xs).map fun ns => .bool (ns.any id)
  | _ => none
theorem me_all {p : Pos} (hc : X.calm = true) (hg : Gl X "all") (hm : X.mg "all" = none) (ha : ME X true a ma) (he : starEach [a] X.env = (false, eval a X.env) :: starEach [] X.env := by rfl) : ME X b' (.Call (.Name "all" p) [a] [] pos) (sUn allD ma) := by
  refine me_B (b := true) (cr_all hc) ?_ hg hm (by decide +kernel) ha (by decide) (by decide) he
  intro y dr F env σ H d1 d v1 Q re w e k
  unfold allD at e
  split at e
  · rename_i xs
    cases q : boolsOf xs with
    | none => rw [q] at e; cases e
    | some ns =>
      rw [q] at e; cases e
      obtain ⟨a1, vs, rfl, h1, z1, rv⟩ := w.list re
      rw [boolsOf_eq q] at rv
      rw [rv.bools] at h1
      exact ⟨a1, ns, rfl, SqL.of h1, k _ H F re Ex.refl (.bl _)⟩
  · cases e
theorem me_any {p : Pos} (hc : X.calm = true) (hg : Gl X "any") (hm : X.mg "any" = none) (ha : ME X true a ma) (he : starEach [a] X.env = (false, eval a X.env) :: starEach [] X.env := by rfl) : ME X b' (.Call (.Name "any" p) [a] [] pos) (sUn anyD ma) := by
  refine me_B (b := true) (cr_any hc) ?_ hg hm (by decide +kernel) ha (by decide) (by decide) he
  intro y dr F env σ H d1 d v1 Q re w e k
  unfold anyD at e
  split at e
  · rename_i xs
    cases q : boolsOf xs with
    | none => rw [q] at e; cases e
    | some ns =>
      rw [q] at e; cases e
      obtain ⟨a1, vs, rfl, h1, z1, rv⟩ := w.list re
      rw [boolsOf_eq q] at rv
      rw [rv.bools] at h1
      exact ⟨a1, ns, rfl, SqL.of h1, k _ H F re Ex.refl (.bl _)⟩
  · cases e
/-- the greatest, the least of some ints -/
def maxL : List Int → Int
  | [] => 0
  | [a] => a
  | a :: r => max a (maxL r)
def minL : List Int → Int
  | [] => 0
  | [a] => a
  | a :: r => min a (minL r)
theorem maxL_spec : ∀ {l : List Int}, 0 < l.length → maxL l ∈ l ∧ ∀ x ∈ l, x ≤ maxL l
  | [a], _ => by simp [maxL]
  | a :: b :: r, _ => by
    obtain ⟨h1, h2⟩ := maxL_spec (l := b :: r) (by simp)
    show max a (maxL (b :: r)) ∈ _ ∧ ∀ x ∈ _, x ≤ max a (maxL (b :: r))
    refine ⟨?_, fun x hx => ?_⟩
    · by_cases h : a ≤ maxL (b :: r)
      · rw [Int.max_eq_right h]; exact List.mem_cons_of_mem _ h1
      · rw [Int.max_eq_left (by omega)]; exact List.mem_cons_self
    · rcases List.mem_cons.mp hx with rfl | hx
      · exact Int.le_max_left _ _
      · exact Int.le_trans (h2 x hx) (Int.le_max_right _ _)
theorem minL_spec : ∀ {l : List Int}, 0 < l.length → minL l ∈ l ∧ ∀ x ∈ l, minL l ≤ x
  | [a], _ => by simp [minL]
  | a :: b :: r, _ => by
    obtain ⟨h1, h2⟩ := minL_spec (l := b :: r) (by simp)
    show min a (minL (b :: r)) ∈ _ ∧ ∀ x ∈ _, min a (minL (b :: r)) ≤ x
    refine ⟨?_, fun x hx => ?_⟩
    · by_cases h : a ≤ minL (b :: r)
      · rw [Int.min_eq_left h]; exact List.mem_cons_self
      · rw [Int.min_eq_right (by omega)]; exact List.mem_cons_of_mem _ h1
    · rcases List.mem_cons.mp hx with rfl | hx
      · exact Int.min_le_left _ _
      · exact Int.le_trans (Int.min_le_right _ _) (h2 x hx)
def maxD : D → Option D
  | .list xs => (intsOf xs).bind fun ns => if 0 < ns.length then some (.int (maxL ns)) else none
  | _ => none
def minD : D → Option D
  | .list xs => (intsOf xs).bind fun ns => if 0 < ns.length then some (.int (minL ns)) else none
  | _ => none
theorem me_max {p : Pos} (hc : X.calm = true) (hg : Gl X "max") (hm : X.mg "max" = none) (ha : ME X true a ma) (he : starEach [a] X.env = (false, eval a X.env) :: starEach [] X.env := by rfl) : ME X b' (.Call (.Name "max" p) [a] [] pos) (sUn maxD ma) := by
  refine me_B (b := true) (cr_max hc) ?_ hg hm (by decide +kernel) ha (by decide) (by decide) he
  intro y dr F env σ H d1 d v1 Q re w e k
  unfold maxD at e
  split at e
  · rename_i xs
    cases q : intsOf xs with
    | none => rw [q] at e; cases e
    | some ns =>
      rw [q] at e
      have e : (if 0 < ns.length then some (PyData.int (maxL ns)) else none) = some d := e
      split at e
      · cases e
        rename_i hl
        obtain ⟨a1, vs, rfl, h1, z1, rv⟩ := w.list re
        rw [intsOf_eq q] at rv
        rw [rv.ints] at h1
        refine ⟨a1, ns, rfl, SqL.of h1, hl, fun m hm hle => ?_⟩
        obtain ⟨h3, h4⟩ := maxL_spec hl
        have : m = maxL ns := Int.le_antisymm (h4 m hm) (hle _ h3)
        rw [this]
        exact k _ H F re Ex.refl (.int _)
      · cases e
  · cases e
theorem me_min {p : Pos} (hc : X.calm = true) (hg : Gl X "min") (hm : X.mg "min" = none) (ha : ME X true a ma) (he : starEach [a] X.env = (false, eval a X.env) :: starEach [] X.env := by rfl) : ME X b' (.Call (.Name "min" p) [a] [] pos) (sUn minD ma) := by
  refine me_B (b := true) (cr_min hc) ?_ hg hm (by decide +kernel) ha (by decide) (by decide) he
  intro y dr F env σ H d1 d v1 Q re w e k
  unfold minD at e
  split at e
  · rename_i xs
    cases q : intsOf xs with
    | none => rw [q] at e; cases e
    | some ns =>
      rw [q] at e
      have e : (if 0 < ns.length then some (PyData.int (minL ns)) else none) = some d := e
      split at e
      · cases e
        rename_i hl
        obtain ⟨a1, vs, rfl, h1, z1, rv⟩ := w.list re
        rw [intsOf_eq q] at rv
        rw [rv.ints] at h1
        refine ⟨a1, ns, rfl, SqL.of h1, hl, fun m hm hle => ?_⟩
        obtain ⟨h3, h4⟩ := minL_spec hl
        have : m = minL ns := Int.le_antisymm (hle _ h3) (h4 m hm)
        rw [this]
        exact k _ H F re Ex.refl (.int _)
      · cases e
  · cases e
/-! two arguments -/
def max2D : D → D → Option D
  | .int i, .int j => some (.int (max i j))
  | _, _ => none
def min2D : D → D → Option D
  | .int i, .int j => some (.int (min i j))
  | _, _ => none
theorem me_B2 {x : Str} {p : Pos} {id : String} {f : D → D → Option D} {r : List V → Hp → VK → Prop} (hc : CallR X (.builtin id) r) (ok : Ok2 X b f (fun x z H Q => r [x, z] H Q)) (hg : Gl X x) (hm : X.mg x = none) (hv : bootBuiltins x = some (.builtin id)) (ha : ME X b a ma) (hd : ME X b c mc)
    (hn : x ≠ "__name__") (hdb : (x == ("__debug__" : Str)) = false)
    (he : starEach [a, c] X.env = (false, eval a X.env) :: starEach [c] X.env) (he2 : starEach [c] X.env = (false, eval c X.env) :: starEach [] X.env) (hpl : (backTo pos (starEach [c] X.env)).any (·.1) = false) : ME X b' (.Call (.Name x p) [a, c] [] pos) (sOp f ma mc) :=
  ⟨⟨fun pins s σ H Q I h => (pe_callB hc hg hm hv (pa_cons ha.run (pa_cons hd.run pa_nil he2) he) hn hdb he hpl).run pins s σ H Q I (op_red (r := fun x z H Q => r [x, z] H Q) ok ha hd h)⟩, op_mono ha hd⟩
theorem me_max2 {p : Pos} (hcm : X.calm = true) (hg : Gl X "max") (hm : X.mg "max" = none) (ha : ME X true a ma) (hd : ME X true c mc)
    (he : starEach [a, c] X.env = (false, eval a X.env) :: starEach [c] X.env := by rfl) (he2 : starEach [c] X.env = (false, eval c X.env) :: starEach [] X.env := by rfl) (hpl : (backTo pos (starEach [c] X.env)).any (·.1) = false := by rfl) : ME X b' (.Call (.Name "max" p) [a, c] [] pos) (sOp max2D ma mc) := by
  refine me_B2 (b := true) (call_max2 hcm) ?_ hg hm (by decide +kernel) ha hd (by decide) (by decide) he he2 hpl
  intro y dr F env σ H d1 d2 d v1 v2 Q re w1 w2 e k
  unfold max2D at e
  split at e
  · cases e
    rename_i i j
    refine ⟨i, j, by rw [w1.int, w2.int], ?_⟩
    have : (if j > i then j else i) = max i j := by split <;> omega
    rw [this]
    exact k _ H F re Ex.refl (.int _)
  · cases e
theorem me_min2 {p : Pos} (hcm : X.calm = true) (hg : Gl X "min") (hm : X.mg "min" = none) (ha : ME X true a ma) (hd : ME X true c mc)
    (he : starEach [a, c] X.env = (false, eval a X.env) :: starEach [c] X.env := by rfl) (he2 : starEach [c] X.env = (false, eval c X.env) :: starEach [] X.env := by rfl) (hpl : (backTo pos (starEach [c] X.env)).any (·.1) = false := by rfl) : ME X b' (.Call (.Name "min" p) [a, c] [] pos) (sOp min2D ma mc) := by
  refine me_B2 (b := true) (call_min2 hcm) ?_ hg hm (by decide +kernel) ha hd (by decide) (by decide) he he2 hpl
  intro y dr F env σ H d1 d2 d v1 v2 Q re w1 w2 e k
  unfold min2D at e
  split at e
  · cases e
    rename_i i j
    refine ⟨i, j, by rw [w1.int, w2.int], ?_⟩
    have : (if j < i then j else i) = min i j := by split <;> omega
    rw [this]
    exact k _ H F re Ex.refl (.int _)
  · cases e
/-! list(x), tuple(x) of a list or a tuple -/
def seqOf : D → Option (List D)
  | .list xs => some xs
  | .tuple xs => some xs
  | _ => none
def obL (o : Option (List D)) (Q : List D → Prop) : Prop := match o with
  | some d => Q d
  | none => False
theorem obL_mono {o : Option (List D)} {P Q : List D → Prop} (k : ∀ d, P d → Q d) (h : obL o P) : obL o Q := by
  cases o with
  | none => exact h
  | some d => exact k d h
def sSeq' (m : SE) : SL := fun env Q => m env fun d => obL (seqOf d) Q
theorem seq_of {K : Fg} {y : Cy} {dr : Option Addr} {F H : Hp} {env : En} {σ : L2.St} {d : D} {v : V} {xs : List D} (re : Re K y dr F env σ H) (w : Vr K b F env σ d v) (h : seqOf d = some xs) : ∃ a vs, v = .ref a ∧ (SqL K H a vs ∨ SqT K H a vs) ∧ xs.length ≤ sizeLine ∧ Rvs K F xs vs := by
  cases d with
  | list xs => cases h; obtain ⟨a, vs, rfl, h1, z, r⟩ := w.list re; exact ⟨a, vs, rfl, .inl (SqL.of h1), z, r⟩
  | tuple xs => cases h; obtain ⟨a, vs, rfl, h1, z, r⟩ := w.tuple re; exact ⟨a, vs, rfl, .inr (re_tuple re h1), z, r⟩
  | _ => cases h
theorem mf_list {p : Pos} (hg : Gl X "list") (hm : X.mg "list" = none) (ha : ME X true a ma) (he : starEach [a] X.env = (false, eval a X.env) :: starEach [] X.env := by rfl) (hpl : (backTo pos (starEach [] X.env)).any (·.1) = false := by rfl) : MF X (.Call (.Name "list" p) [a] [] pos) (sSeq' ma) := by
  refine ⟨⟨fun pins s σ H Q I hq => (pe_callTy call_list_of hg hm (by decide +kernel) (pa_cons ha.run pa_nil he) (by decide) (by decide) he hpl).run pins s σ H Q I ?_⟩, fun env P Q k hp => ha.mono _ _ _ (fun d h1 => obL_mono k h1) hp⟩
  obtain ⟨y, dr, F, env, re, hm⟩ := hq
  refine ⟨y, dr, F, env, re, ha.mono _ _ _ (fun d1 h1 v1 H1 F1 r1 s1 w1 => ?_) hm⟩
  cases q : seqOf d1 with
  | none => rw [q] at h1; exact h1.elim
  | some xs =>
    rw [q] at h1
    obtain ⟨a1, vs, rfl, e1, z1, rv⟩ := seq_of r1 w1 q
    exact ⟨a1, vs, rfl, e1, fun p hp => new_lst r1 s1 hp rv z1 h1⟩
def tupD : D → Option D
  | .list xs => some (.tuple xs)
  | .tuple xs => some (.tuple xs)
  | _ => none
theorem me_tuple {p : Pos} (hg : Gl X "tuple") (hm : X.mg "tuple" = none) (ha : ME X true a ma) (he : starEach [a] X.env = (false, eval a X.env) :: starEach [] X.env := by rfl) : ME X b' (.Call (.Name "tuple" p) [a] [] pos) (sUn tupD ma) := by
  refine me_T (b := true) call_tupleP ?_ hg hm (by decide +kernel) ha (by decide) (by decide) he
  intro y dr F env σ H d1 d v1 Q re w e k
  unfold tupD at e
  split at e
  · cases e
    obtain ⟨a1, vs, rfl, h1, z1, rv⟩ := w.list re
    refine ⟨a1, vs, rfl, .inl ⟨SqL.of h1, fun p o t hp => ?_⟩⟩
    exact k _ _ _ (re.laid hp) (re.ex hp) (Rv.tupNew (re.nF hp) t z1 rv)
  · cases e
    obtain ⟨a1, vs, rfl, h1, z1, rv⟩ := w.tuple re
    exact ⟨a1, vs, rfl, .inr ⟨re_tuple re h1, k _ H F re Ex.refl (.tup h1 z1 rv)⟩⟩
  · cases e
end
end Mi

namespace Mi
open PySem PySem.Spec L2
section
variable {K : Fg} {y : Cy} {dr : Option Addr} {F H : Hp} {env : En} {σ : L2.St} {p : Addr} {o : HO}
theorem own_of_get {env : En} {i j : Nat} {s s' : Sl} (h : (env.set i s)[j]? = some s') : (j = i ∧ s' = s) ∨ (j ≠ i ∧ env[j]? = some s') := by
  by_cases e : j = i
  · subst e
    by_cases hl : j < env.length
    · rw [List.getElem?_set_self hl] at h; cases h; exact .inl ⟨rfl, rfl⟩
    · rw [List.getElem?_eq_none (by rw [List.length_set]; omega)] at h; cases h
  · rw [List.getElem?_set_ne (Ne.symm e)] at h; exact .inr ⟨e, h⟩
theorem st_of_get {σ : L2.St} {i j : Nat} {s s' : Option V} (h : (σ.set i s)[j]? = some s') : (j = i ∧ s' = s) ∨ (j ≠ i ∧ σ[j]? = some s') := by
  by_cases e : j = i
  · subst e
    by_cases hl : j < σ.length
    · rw [List.getElem?_set_self hl] at h; cases h; exact .inl ⟨rfl, rfl⟩
    · rw [List.getElem?_eq_none (by rw [List.length_set]; omega)] at h; cases h
  · rw [List.getElem?_set_ne (Ne.symm e)] at h; exact .inr ⟨e, h⟩
/-- a slot gets something -/
theorem Re.put (re : Re K y dr F env σ H) {i : Nat} {s : Sl} {v : Option V} (hs : SlOk K y dr F H v s) (hno : s.own = true → ∀ a, v = some (.ref a) → ∀ (j : Nat) (s' : Sl), j ≠ i → env[j]? = some s' → s'.own = true → σ[j]? ≠ some (some (.ref a))) : Re K y dr F (env.set i s) (σ.set i v) H := by
  refine ⟨re.rf, by rw [List.length_set, List.length_set]; exact re.len, fun j s' o h1 h2 => ?_, fun j l a s1 s2 h1 h2 o1 o2 h3 h4 => ?_⟩
  · rcases own_of_get h1 with ⟨rfl, rfl⟩ | ⟨ne, h1⟩
    · rcases st_of_get h2 with ⟨_, rfl⟩ | ⟨ne, _⟩
      · exact hs
      · exact absurd rfl ne
    · rcases st_of_get h2 with ⟨e, _⟩ | ⟨_, h2⟩
      · exact absurd e ne
      · exact re.slot j s' o h1 h2
  · rcases own_of_get h1 with ⟨ej, es⟩ | ⟨ne1, g1⟩
    · rcases own_of_get h2 with ⟨el, es2⟩ | ⟨ne2, g2⟩
      · rw [ej, el]
      · rcases st_of_get h3 with ⟨_, e3⟩ | ⟨z, _⟩
        · rcases st_of_get h4 with ⟨z, _⟩ | ⟨_, g4⟩
          · exact absurd z ne2
          · exact absurd g4 (hno (by rw [← es]; exact o1) a e3.symm l s2 ne2 g2 o2)
        · exact absurd ej z
    · rcases st_of_get h3 with ⟨z, _⟩ | ⟨_, g3⟩
      · exact absurd z ne1
      · rcases own_of_get h2 with ⟨el, es2⟩ | ⟨ne2, g2⟩
        · rcases st_of_get h4 with ⟨_, e4⟩ | ⟨z, _⟩
          · exact absurd g3 (hno (by rw [← es2]; exact o2) a e4.symm j s1 ne1 g1 o1)
          · exact absurd el z
        · rcases st_of_get h4 with ⟨z, _⟩ | ⟨_, g4⟩
          · exact absurd z ne2
          · exact re.sep j l a s1 s2 g1 g2 o1 o2 g3 g4
theorem Re.putV (re : Re K y dr F env σ H) {i : Nat} {d : D} {v : V} (r : Rv K F d v) : Re K y dr F (env.set i (.v d)) (σ.set i (some v)) H :=
  re.put ⟨v, rfl, r⟩ fun z => nomatch z
theorem Re.putL (re : Re K y dr F env σ H) {i : Nat} {xs : List D} {vs : List V} (hp : H p = some (.lst vs)) (fr : Free y dr F env σ p) (r : Rvs K F xs vs) (hz : xs.length ≤ sizeLine) : Re K y dr F (env.set i (.l xs)) (σ.set i (some (.ref p))) H :=
  re.put ⟨p, vs, rfl, hp, hz, r, fr.nF, fr.nH, fr.nd⟩ fun _ a e j s' _ h1 h2 h3 => by cases e; exact fr.no j s' h1 h2 h3
/-- an own list is changed in place -/
theorem Re.setL (re : Re K y dr F env σ H) {i : Nat} {xs ys : List D} {ws : List V} (h1 : env[i]? = some (.l xs)) (h2 : σ[i]? = some (some (.ref p))) (r : Rvs K F ys ws) (hz : ys.length ≤ sizeLine) : Re K y dr F (env.set i (.l ys)) σ (upd H p (.lst ws)) := by
  obtain ⟨a, vs, e1, e2, z, rv, e3, e4, e5⟩ := re.slot i _ _ h1 h2
  cases e1
  have kp : ∀ b, b ≠ p → upd H p (.lst ws) b = H b := fun b hb => upd_ne hb
  have hdr : ∀ a, dr = some a → a ≠ p := fun a e z => e5 (by rw [← z]; exact e.symm)
  refine ⟨⟨fun b u e => ?_, re.rf.sup, re.rf.new, fun b u e n => ?_, fun b hb => ?_, fun b hb => ?_, re.rf.drs, re.rf.drn⟩, by rw [List.length_set]; exact re.len, fun j s' o g1 g2 => ?_, fun j l a s1 s2 g1 g2 o1 o2 g3 g4 => ?_⟩
  · have hb : b ≠ p := fun z => by rw [z, e3] at e; cases e
    rw [kp b hb]; exact re.rf.sub b u e
  · have hb : b ≠ p := fun z => by rw [z, e4] at e; cases e
    rw [kp b hb]; exact re.rf.gr b u e n
  · have hbp : b ≠ p := fun z => by rw [z, e4] at hb; exact hb rfl
    rw [kp b hbp]; exact re.rf.dom b hb
  · obtain ⟨q1, q2⟩ := re.rf.drw b hb
    exact ⟨q1, q2.at (kp b (hdr b hb))⟩
  · rcases own_of_get g1 with ⟨rfl, rfl⟩ | ⟨ne, g1⟩
    · rw [h2] at g2; cases g2
      exact ⟨p, ws, rfl, upd_same, hz, r, e3, e4, e5⟩
    · refine (re.slot j s' o g1 g2).keep (Same.refl _) fun a ha w => ?_
      obtain ⟨c, w1, _, w3, w4, _⟩ := (re.slot j s' o g1 g2).there w
      rw [ha] at w1; cases w1
      have : a ≠ p := fun z => by
        subst z
        exact ne (re.sep j i a s' _ g1 h1 w rfl (by rw [g2, ha]) h2)
      exact ⟨kp a this, w3, w4⟩
  · have back : ∀ {m : Nat} {s : Sl}, (env.set i (.l ys))[m]? = some s → s.own = true → ∃ s', env[m]? = some s' ∧ s'.own = true := fun {m s} g w => by
      rcases own_of_get g with ⟨rfl, rfl⟩ | ⟨_, g⟩
      · exact ⟨_, h1, rfl⟩
      · exact ⟨_, g, w⟩
    obtain ⟨t1, u1, v1⟩ := back g1 o1
    obtain ⟨t2, u2, v2⟩ := back g2 o2
    exact re.sep j l a t1 t2 u1 u2 v1 v2 g3 g4
end
/-! ### statements -/
structure KLe (a c : Ks) : Prop where
  nx : ∀ e, a.nx e → c.nx e
  rt : ∀ e, a.rt e → c.rt e
  bk : ∀ e, a.bk e → c.bk e
  ct : ∀ e, a.ct e → c.ct e
theorem KLe.refl (a : Ks) : KLe a a := ⟨fun _ h => h, fun _ h => h, fun _ h => h, fun _ h => h⟩
def kN (K : Fg) (y : Cy) (F : Hp) (Q : L2.St → Hp → Prop) : En → Prop := fun env' => ∀ dr' F' σ' H', Re K y dr' F' env' σ' H' → Same F F' → Q σ' H'
def kR (K : Fg) (y : Cy) (Q : VK) : D → Prop := fun d => ∀ v dr' F' H', Rf y dr' F' H' → Rv K F' d v → Q v H'
def kS (K : Fg) (y : Cy) (F : Hp) (E : Ends) : Ks := ⟨kN K y F E.nx, kR K y E.rt, kN K y F E.bk, kN K y F E.ct⟩
def lS (K : Fg) (m : SS) : TS := fun E σ H => ∃ y dr F env, Re K y dr F env σ H ∧ m (kS K y F E) env
theorem kN_mono {K : Fg} {y : Cy} {F F' : Hp} {Q : L2.St → Hp → Prop} (h : Same F F') {e : En} (k : kN K y F Q e) : kN K y F' Q e := fun dr' F2 σ' H' re s => k dr' F2 σ' H' re (h.trans s)
theorem kS_mono {K : Fg} {y : Cy} {F F' : Hp} {E : Ends} (h : Same F F') : KLe (kS K y F E) (kS K y F' E) := ⟨fun _ k => kN_mono h k, fun _ k => k, fun _ k => kN_mono h k, fun _ k => kN_mono h k⟩
structure MS (X : Cx) (st : Stmt) (m : SS) : Prop where
  run : PS X st (lS X.G m)
  mono : ∀ (a c : Ks) env, KLe a c → m a env → m c env
structure MSs (X : Cx) (st : List Stmt) (m : SS) : Prop where
  run : PSs X st (lS X.G m)
  mono : ∀ (a c : Ks) env, KLe a c → m a env → m c env
def sSeq (a c : SS) : SS := fun K env => a ⟨fun e => c K e, K.rt, K.bk, K.ct⟩ env
def sSkip : SS := fun K env => K.nx env
section
variable {X : Cx} {st : Stmt} {sts : List Stmt} {m m' : SS} {a c e : Expr} {ma mc me : SE} {pos : Pos}
theorem mss_nil : MSs X [] sSkip := by
  refine ⟨⟨fun pins s σ H E I h => pss_nil.run pins s σ H E I ?_⟩, fun a c env k h => k.nx _ h⟩
  obtain ⟨y, dr, F, env, re, hm⟩ := h
  exact hm dr F σ H re (Same.refl _)
theorem mss_one (h : MS X st m) : MSs X [st] m := ⟨pss_one h.run, h.mono⟩
theorem seq_mono (h1 : ∀ (a c : Ks) env, KLe a c → m a env → m c env) (h2 : ∀ (a c : Ks) env, KLe a c → m' a env → m' c env) (a c : Ks) (env : En) (k : KLe a c) (h : sSeq m m' a env) : sSeq m m' c env :=
  h1 ⟨fun e => m' a e, a.rt, a.bk, a.ct⟩ ⟨fun e => m' c e, c.rt, c.bk, c.ct⟩ env ⟨fun e he => h2 _ _ _ k he, k.rt, k.bk, k.ct⟩ h
theorem mss_cons (h1 : MS X st m) (h2 : MSs X sts m') : MSs X (st :: sts) (sSeq m m') := by
  refine ⟨⟨fun pins s σ H E I h => (pss_cons h1.run h2.run).run pins s σ H E I ?_⟩, seq_mono h1.mono h2.mono⟩
  obtain ⟨y, dr, F, env, re, hm⟩ := h
  refine ⟨y, dr, F, env, re, h1.mono ⟨fun e => m' (kS X.G y F E) e, (kS X.G y F E).rt, (kS X.G y F E).bk, (kS X.G y F E).ct⟩ _ env ⟨fun env' he dr' F' σ' H' re' s' => ?_, fun _ h => h, fun _ h => h, fun _ h => h⟩ hm⟩
  exact ⟨y, dr', F', env', re', h2.mono (kS X.G y F E) _ env' (kS_mono s') he⟩
theorem ms_pass : MS X (.Pass pos) sSkip := by
  refine ⟨⟨fun pins s σ H E I h => ps_pass.run pins s σ H E I ?_⟩, fun a c env k h => k.nx _ h⟩
  obtain ⟨y, dr, F, env, re, hm⟩ := h
  exact hm dr F σ H re (Same.refl _)
def sBrk : SS := fun K env => K.bk env
def sCnt : SS := fun K env => K.ct env
theorem ms_brk : MS X (.Break pos) sBrk := by
  refine ⟨⟨fun pins s σ H E I h => ps_break.run pins s σ H E I ?_⟩, fun a c env k h => k.bk _ h⟩
  obtain ⟨y, dr, F, env, re, hm⟩ := h
  exact hm dr F σ H re (Same.refl _)
theorem ms_cnt : MS X (.Continue pos) sCnt := by
  refine ⟨⟨fun pins s σ H E I h => ps_continue.run pins s σ H E I ?_⟩, fun a c env k h => k.ct _ h⟩
  obtain ⟨y, dr, F, env, re, hm⟩ := h
  exact hm dr F σ H re (Same.refl _)
def sDrop (m : SE) : SS := fun K env => m env fun _ => K.nx env
theorem ms_expr (ha : ME X false a ma) (hs : swapsWith a none pos.line X.env = pure false := by rfl) : MS X (.Expr a pos) (sDrop ma) := by
  refine ⟨⟨fun pins s σ H E I h => (ps_expr ha.run hs).run pins s σ H E I ?_⟩, fun a c env k h => ha.mono _ _ _ (fun _ q => k.nx _ q) h⟩
  obtain ⟨y, dr, F, env, re, hm⟩ := h
  exact ⟨y, dr, F, env, re, ha.mono _ _ _ (fun d hd v H' F' r1 s1 w => hd dr F' σ H' r1 s1.f) hm⟩
def sRet (m : SE) : SS := fun K env => m env K.rt
theorem ms_ret (ha : ME X false a ma) : MS X (.Return (some a) pos) (sRet ma) := by
  refine ⟨⟨fun pins s σ H E I h => (ps_ret ha.run).run pins s σ H E I ?_⟩, fun a c env k h => ha.mono _ _ _ k.rt h⟩
  obtain ⟨y, dr, F, env, re, hm⟩ := h
  exact ⟨y, dr, F, env, re, ha.mono _ _ _ (fun d hd v H' F' r1 s1 w => hd v dr F' H' r1.rf w.rv) hm⟩
def sRetN : SS := fun K _ => K.rt .none
theorem ms_retN : MS X (.Return none pos) sRetN := by
  refine ⟨⟨fun pins s σ H E I h => ps_retN.run pins s σ H E I ?_⟩, fun a c env k h => k.rt _ h⟩
  obtain ⟨y, dr, F, env, re, hm⟩ := h
  exact hm .non dr F H re.rf .non
def sIfS (t : SB) (m m' : SS) : SS := fun K env => t env fun k => if k = true then m K env else m' K env
theorem ms_if {t : Expr} {tt : SB} {p q : List Stmt} (ht : MT X t tt) (h1 : MSs X p m) (h2 : MSs X q m') : MS X (.If t p q pos) (sIfS tt m m') := by
  refine ⟨⟨fun pins s σ H E I h => (ps_if ht.run h1.run h2.run).run pins s σ H E I ?_⟩, fun a c env k h => ht.mono _ _ _ (fun d hd => ?_) h⟩
  · obtain ⟨y, dr, F, env, re, hm⟩ := h
    refine ⟨y, dr, F, env, re, ht.mono _ _ _ (fun d hd H' F' r1 s1 => ?_) hm⟩
    cases d with
    | true => rw [if_pos rfl] at hd ⊢; exact ⟨y, dr, F', env, r1, h1.mono _ _ _ (kS_mono s1.f) hd⟩
    | false => rw [if_neg Bool.false_ne_true] at hd ⊢; exact ⟨y, dr, F', env, r1, h2.mono _ _ _ (kS_mono s1.f) hd⟩
  · cases d with
    | true => rw [if_pos rfl] at hd ⊢; exact h1.mono _ _ _ k hd
    | false => rw [if_neg Bool.false_ne_true] at hd ⊢; exact h2.mono _ _ _ k hd
/-! a slot that one's own object stands in, as a value from here on -/
def fzS : Sl → Sl
  | .l xs => .v (.list xs)
  | .k kvs => .v (.dict (kdD kvs))
  | .t kvs => .v (.dict (ktM kvs))
  | s => s
def fz (i : Nat) (env : En) : En := match env[i]? with
  | some s => env.set i (fzS s)
  | none => env
def sFz (i : Nat) (m : SS) : SS := fun K env => m K (fz i env)
theorem Re.fz {K : Fg} {y : Cy} {dr : Option Addr} {F H : Hp} {env : En} {σ : L2.St} (re : Re K y dr F env σ H) (i : Nat) : ∃ F', Same F F' ∧ Re K y dr F' (fz i env) σ H := by
  unfold Mi.fz
  cases q : env[i]? with
  | none => exact ⟨F, Same.refl _, re⟩
  | some s =>
    obtain ⟨o, g1, g2⟩ := re.get q
    have self : ∀ (F' : Hp), Re K y dr F' (env.set i .un) σ H → (∃ v, o = some v ∧ ∀ d, fzS s = .v d → Rv K F' d v) → (∃ d, fzS s = .v d) → Re K y dr F' (env.set i (fzS s)) σ H := by
      rintro F' r1 ⟨v, rfl, hv⟩ ⟨d, hd⟩
      have r2 := r1.putV (i := i) (hv d hd)
      rw [List.set_set] at r2
      rw [hd]
      have : σ.set i (some v) = σ := by
        apply List.ext_getElem?
        intro j
        by_cases e : j = i
        · subst e
          rw [List.getElem?_set_self (List.getElem?_eq_some_iff.mp g1).1, g1]
        · rw [List.getElem?_set_ne (Ne.symm e)]
      rw [this] at r2
      exact r2
    have un : Re K y dr F (env.set i .un) σ H := by
      refine ⟨re.rf, by rw [List.length_set]; exact re.len, fun j s' o h1 h2 => ?_, fun j l a s1 s2 h1 h2 o1 o2 h3 h4 => ?_⟩
      · rcases own_of_get h1 with ⟨rfl, rfl⟩ | ⟨ne, h1⟩
        · trivial
        · exact re.slot j s' o h1 h2
      · rcases own_of_get h1 with ⟨rfl, rfl⟩ | ⟨_, h1⟩
        · cases o1
        · rcases own_of_get h2 with ⟨rfl, rfl⟩ | ⟨_, h2⟩
          · cases o2
          · exact re.sep j l a s1 s2 h1 h2 o1 o2 h3 h4
    have fr : ∀ a, o = some (.ref a) → s.own = true → Free y dr F (env.set i .un) σ a := by
      rintro a rfl w
      obtain ⟨b, e1, e2, e3, e4, e5⟩ := g2.there w
      cases e1
      refine ⟨e3, e4, e5, fun j s' h1 h2 h3 => ?_⟩
      rcases own_of_get h1 with ⟨rfl, rfl⟩ | ⟨ne, h1⟩
      · cases h2
      · exact ne (re.sep j i a s' s h1 q h2 w h3 g1)
    cases s with
    | l xs =>
      obtain ⟨a, vs, e1, e2, z, rv, e3, _⟩ := id g2
      have f1 := fr a e1 rfl
      exact ⟨_, upd_grow e3, self _ (un.freeze f1 e2) ⟨_, e1, fun d hd => by cases hd; exact Rv.lstNew e3 z rv⟩ ⟨_, rfl⟩⟩
    | k xs =>
      obtain ⟨a, vs, e1, e2, rv, e3, _⟩ := id g2
      have f1 := fr a e1 rfl
      exact ⟨_, upd_grow e3, self _ (un.freeze f1 e2) ⟨_, e1, fun d hd => by cases hd; exact .dic (.inl upd_same) (rv.mono (upd_grow e3))⟩ ⟨_, rfl⟩⟩
    | t xs =>
      obtain ⟨a, vs, e1, e2, rv, e3, _⟩ := id g2
      have f1 := fr a e1 rfl
      exact ⟨_, upd_grow e3, self _ (un.freeze f1 e2) ⟨_, e1, fun d hd => by cases hd; exact .dit (.inl upd_same) (rv.mono (upd_grow e3))⟩ ⟨_, rfl⟩⟩
    | un =>
      refine ⟨F, Same.refl _, ?_⟩
      show Re K y dr F (env.set i .un) σ H
      exact un
    | v d =>
      refine ⟨F, Same.refl _, ?_⟩
      have : env.set i (.v d) = env := by
        apply List.ext_getElem?
        intro j
        by_cases e : j = i
        · subst e
          rw [List.getElem?_set_self (List.getElem?_eq_some_iff.mp q).1, q]
        · rw [List.getElem?_set_ne (Ne.symm e)]
      show Re K y dr F (env.set i (.v d)) σ H
      rw [this]
      exact re
    | sc ns =>
      refine ⟨F, Same.refl _, ?_⟩
      have : env.set i (.sc ns) = env := by
        apply List.ext_getElem?
        intro j
        by_cases e : j = i
        · subst e
          rw [List.getElem?_set_self (List.getElem?_eq_some_iff.mp q).1, q]
        · rw [List.getElem?_set_ne (Ne.symm e)]
      show Re K y dr F (env.set i (.sc ns)) σ H
      rw [this]
      exact re
    | dr =>
      refine ⟨F, Same.refl _, ?_⟩
      have : env.set i .dr = env := by
        apply List.ext_getElem?
        intro j
        by_cases e : j = i
        · subst e
          rw [List.getElem?_set_self (List.getElem?_eq_some_iff.mp q).1, q]
        · rw [List.getElem?_set_ne (Ne.symm e)]
      show Re K y dr F (env.set i .dr) σ H
      rw [this]
      exact re
theorem ms_fz (i : Nat) (h : MS X st m) : MS X st (sFz i m) := by
  refine ⟨⟨fun pins s σ H E I hq => h.run.run pins s σ H E I ?_⟩, fun a c env k hq => h.mono _ _ _ k hq⟩
  obtain ⟨y, dr, F, env, re, hm⟩ := hq
  obtain ⟨F', s1, r1⟩ := re.fz i
  exact ⟨y, dr, F', _, r1, h.mono _ _ _ (kS_mono s1) hm⟩
/-! ### stores -/
def sAsg (i : Nat) (m : SE) : SS := fun K env => m env fun d => K.nx (env.set i (.v d))
theorem asg_mono {i : Nat} (ha : ∀ env (P Q : D → Prop), (∀ d, P d → Q d) → ma env P → ma env Q) (a c : Ks) (env : En) (k : KLe a c) (h : sAsg i ma a env) : sAsg i ma c env := ha _ _ _ (fun _ q => k.nx _ q) h
theorem asg_red {i : Nat} {E : Ends} {σ : L2.St} {H : Hp} (mono : ∀ env (P Q : D → Prop), (∀ d, P d → Q d) → ma env P → ma env Q) (h : lS X.G (sAsg i ma) E σ H) : tAsg (lE X.G false ma) (gName i) E σ H := by
  obtain ⟨y, dr, F, env, re, hm⟩ := h
  exact ⟨y, dr, F, env, re, mono _ _ _ (fun d hd v H' F' r1 s1 w => hd dr F' _ H' (r1.putV w.rv) s1.f) hm⟩
theorem ms_set {i : Nat} {x : Str} {pos' : Pos} (hN : X.N.Nodup) (hi : X.N[i]? = some x) (hx : Loc X.env.scope x) (ha : ME X false a ma) (hs : swapsWith a (some (.Name x pos')) pos.line X.env = pure false := by rfl)
    (hf : X.fn x = true ∨ X.env.scope.names.lookup x = some .local := by first | exact .inl rfl | exact .inr rfl | assumption) : MS X (.Assign [.Name x pos'] a pos) (sAsg i ma) :=
  ⟨⟨fun pins s σ H E I h => (ps_set hN hi hx ha.run hs hf).run pins s σ H E I (asg_red ha.mono h)⟩, asg_mono ha.mono⟩
def sOwn (i : Nat) (m : SL) : SS := fun K env => m env fun xs => K.nx (env.set i (.l xs))
theorem own_mono {i : Nat} {ml : SL} (ha : ∀ env (P Q : List D → Prop), (∀ d, P d → Q d) → ml env P → ml env Q) (a c : Ks) (env : En) (k : KLe a c) (h : sOwn i ml a env) : sOwn i ml c env := ha _ _ _ (fun _ q => k.nx _ q) h
theorem own_red {i : Nat} {ml : SL} {E : Ends} {σ : L2.St} {H : Hp} (mono : ∀ env (P Q : List D → Prop), (∀ d, P d → Q d) → ml env P → ml env Q) (h : lS X.G (sOwn i ml) E σ H) : tAsg (lF X.G ml) (gName i) E σ H := by
  obtain ⟨y, dr, F, env, re, hm⟩ := h
  exact ⟨y, dr, F, env, re, mono _ _ _ (fun xs hd p vs H' F' r1 s1 hp fr rv hz => hd dr F' _ H' (r1.putL hp fr rv hz) s1.f) hm⟩
theorem ms_own {i : Nat} {x : Str} {pos' : Pos} {ml : SL} (hN : X.N.Nodup) (hi : X.N[i]? = some x) (hx : Loc X.env.scope x) (ha : MF X a ml) (hs : swapsWith a (some (.Name x pos')) pos.line X.env = pure false := by rfl)
    (hf : X.fn x = true ∨ X.env.scope.names.lookup x = some .local := by first | exact .inl rfl | exact .inr rfl | assumption) : MS X (.Assign [.Name x pos'] a pos) (sOwn i ml) :=
  ⟨⟨fun pins s σ H E I h => (ps_set hN hi hx ha.run hs hf).run pins s σ H E I (own_red ha.mono h)⟩, own_mono ha.mono⟩
/-! targets -/
def lG (K : Fg) (ts : List Nat) (g : SG) : TG := fun v σ H Q => ∃ y dr F env d, Re K y dr F env σ H ∧ Rv K F d v ∧ g d env fun env' => ∀ F' σ' H', Re K y dr F' env' σ' H' → Ex dr F H F' H' → wipe σ' ts = wipe σ ts → Q σ' H'
abbrev SGs := List D → En → (En → Prop) → Prop
def lGs (K : Fg) (ts : List Nat) (g : SGs) : TGs := fun vs σ H Q => ∃ y dr F env ds, Re K y dr F env σ H ∧ Rvs K F ds vs ∧ g ds env fun env' => ∀ F' σ' H', Re K y dr F' env' σ' H' → Ex dr F H F' H' → wipe σ' ts = wipe σ ts → Q σ' H'
def wipeE (env : En) : List Nat → En
  | [] => env
  | v :: vs => (wipeE env vs).set v .un
theorem wipeE_length (env : En) : ∀ vs : List Nat, (wipeE env vs).length = env.length
  | [] => rfl
  | v :: vs => by unfold wipeE; rw [List.length_set, wipeE_length env vs]
theorem wipeE_get {env : En} {i : Nat} : ∀ {vs : List Nat}, i ∉ vs → (wipeE env vs)[i]? = env[i]?
  | [], _ => rfl
  | v :: vs, h => by
    simp only [List.mem_cons, not_or] at h
    unfold wipeE
    rw [List.getElem?_set_ne (Ne.symm h.1)]
    exact wipeE_get h.2
theorem wipeE_in {env : En} {i : Nat} : ∀ {vs : List Nat}, i ∈ vs → i < env.length → (wipeE env vs)[i]? = some .un
  | v :: vs, h, hl => by
    unfold wipeE
    by_cases e : v = i
    · subst e
      rw [List.getElem?_set_self (by rw [wipeE_length]; exact hl)]
    · rw [List.getElem?_set_ne e]
      exact wipeE_in ((List.mem_cons.mp h).resolve_left (Ne.symm e)) hl
theorem wipe_get {σ : L2.St} {i : Nat} : ∀ {vs : List Nat}, i ∉ vs → (wipe σ vs)[i]? = σ[i]?
  | [], _ => rfl
  | v :: vs, h => by
    simp only [List.mem_cons, not_or] at h
    unfold wipe
    rw [List.getElem?_set_ne (Ne.symm h.1)]
    exact wipe_get h.2
theorem wipe_in {σ : L2.St} {i : Nat} : ∀ {vs : List Nat}, i ∈ vs → i < σ.length → (wipe σ vs)[i]? = some none
  | v :: vs, h, hl => by
    unfold wipe
    by_cases e : v = i
    · subst e
      rw [List.getElem?_set_self (by rw [wipe_length]; exact hl)]
    · rw [List.getElem?_set_ne e]
      exact wipe_in ((List.mem_cons.mp h).resolve_left (Ne.symm e)) hl
theorem wipe_set {σ : L2.St} {i : Nat} {o : Option V} {ts : List Nat} (h : i ∈ ts) : wipe (σ.set i o) ts = wipe σ ts := by
  apply List.ext_getElem?
  intro j
  by_cases hj : j ∈ ts
  · by_cases hl : j < σ.length
    · rw [wipe_in hj hl, wipe_in hj (by rw [List.length_set]; exact hl)]
    · rw [List.getElem?_eq_none (by rw [wipe_length, List.length_set]; omega), List.getElem?_eq_none (by rw [wipe_length]; omega)]
  · rw [wipe_get hj, wipe_get hj, List.getElem?_set_ne (fun e => hj (by rw [← e]; exact h))]
theorem wipeE_set {env : En} {i : Nat} {o : Sl} {ts : List Nat} (h : i ∈ ts) : wipeE (env.set i o) ts = wipeE env ts := by
  apply List.ext_getElem?
  intro j
  by_cases hj : j ∈ ts
  · by_cases hl : j < env.length
    · rw [wipeE_in hj hl, wipeE_in hj (by rw [List.length_set]; exact hl)]
    · rw [List.getElem?_eq_none (by rw [wipeE_length, List.length_set]; omega), List.getElem?_eq_none (by rw [wipeE_length]; omega)]
  · rw [wipeE_get hj, wipeE_get hj, List.getElem?_set_ne (fun e => hj (by rw [← e]; exact h))]
structure MG (X : Cx) (ts : List Nat) (tg : Expr) (g : SG) : Prop where
  run : PG X tg (lG X.G ts g)
  mono : ∀ d env (P Q : En → Prop), (∀ e, P e → Q e) → g d env P → g d env Q
  fr : ∀ d env (Q : En → Prop), g d env Q → g d env fun e => Q e ∧ wipeE e ts = wipeE env ts
  ex : ∀ d env (Q : En → Prop), g d env Q → ∃ e, Q e
structure MGs (X : Cx) (ts : List Nat) (tg : List Expr) (g : SGs) : Prop where
  run : PGs X tg (lGs X.G ts g)
  mono : ∀ d env (P Q : En → Prop), (∀ e, P e → Q e) → g d env P → g d env Q
  fr : ∀ d env (Q : En → Prop), g d env Q → g d env fun e => Q e ∧ wipeE e ts = wipeE env ts
  ex : ∀ d env (Q : En → Prop), g d env Q → d.length = tg.length ∧ ∃ e, Q e
def gN (i : Nat) : SG := fun d env Q => Q (env.set i (.v d))
theorem mg_name {i : Nat} {x : Str} {ts : List Nat} (hN : X.N.Nodup) (hi : X.N[i]? = some x) (hx : Loc X.env.scope x) (ht : i ∈ ts) (hf : X.fn x = true ∨ X.env.scope.names.lookup x = some .local := by first | exact .inl rfl | exact .inr rfl | assumption) : MG X ts (.Name x pos) (gN i) := by
  refine ⟨⟨fun pins s σ H v u Q I r h => (pg_name hN hi hx hf).run pins s σ H v u Q I r ?_⟩, fun d env P Q k h => k _ h, fun d env Q h => ⟨h, wipeE_set ht⟩, fun d env Q h => ⟨_, h⟩⟩
  obtain ⟨y, dr, F, env, d, re, rv, hm⟩ := h
  exact hm F _ H (re.putV rv) Ex.refl (wipe_set ht)
def gNo : SGs := fun ds env Q => match ds with
  | [] => Q env
  | _ => False
def gCo (g : SG) (gs : SGs) : SGs := fun ds env Q => match ds with
  | d :: r => g d env fun e => gs r e Q
  | [] => False
theorem gNo_inv {ds : List D} {env : En} {Q : En → Prop} (h : gNo ds env Q) : ds = [] ∧ Q env := by
  cases ds with
  | nil => exact ⟨rfl, h⟩
  | cons d r => exact h.elim
theorem gCo_inv {g : SG} {gs : SGs} {ds : List D} {env : En} {Q : En → Prop} (h : gCo g gs ds env Q) : ∃ d r, ds = d :: r ∧ g d env fun e => gs r e Q := by
  cases ds with
  | nil => exact h.elim
  | cons d r => exact ⟨d, r, rfl, h⟩
theorem mgs_nil {ts : List Nat} : MGs X ts [] gNo := by
  refine ⟨⟨fun pins s σ H vs us Q I r h => pgs_nil.run pins s σ H vs us Q I r ?_⟩, fun d env P Q k h => ?_, fun d env Q h => ?_, fun d env Q h => ?_⟩
  · obtain ⟨y, dr, F, env, d, re, rv, h0⟩ := h
    obtain ⟨h0, hm⟩ := gNo_inv h0
    subst h0
    cases rv
    exact ⟨rfl, hm F _ H re Ex.refl rfl⟩
  · obtain ⟨rfl, h⟩ := gNo_inv h
    exact k _ h
  · obtain ⟨rfl, h⟩ := gNo_inv h
    exact ⟨h, rfl⟩
  · obtain ⟨rfl, h⟩ := gNo_inv h
    exact ⟨rfl, _, h⟩
theorem mgs_cons {ts : List Nat} {tg : Expr} {tgs : List Expr} {g : SG} {gs : SGs} (h1 : MG X ts tg g) (h2 : MGs X ts tgs gs) (hs : (assignEach (tg :: tgs) X.env).map (·.2) = assign tg X.env :: (assignEach tgs X.env).map (·.2) := by rfl) : MGs X ts (tg :: tgs) (gCo g gs) := by
  refine ⟨⟨fun pins s σ H vs us Q I r h => (pgs_cons h1.run h2.run hs).run pins s σ H vs us Q I r ?_⟩, fun d env P Q k h => ?_, fun d env Q h => ?_, fun d env Q h => ?_⟩
  · obtain ⟨y, dr, F, env, d, re, rv, h0⟩ := h
    obtain ⟨d1, dr', e1, hm⟩ := gCo_inv h0
    subst e1
    cases rv with
    | cons r1 r2 =>
      refine ⟨_, _, rfl, y, dr, F, env, _, re, r1, h1.mono _ _ _ _ (fun env' he F' σ' H' re' s' w' => ?_) hm⟩
      exact ⟨y, dr, F', env', _, re', r2.mono s'.f, h2.mono _ _ _ _ (fun e2 h3 F2 σ2 H2 re2 s2 w2 => h3 F2 σ2 H2 re2 (s'.trans s2) (w2.trans w')) he⟩
  · obtain ⟨d1, r, rfl, h⟩ := gCo_inv h
    show g d1 env fun e => gs r e Q
    exact h1.mono _ _ _ _ (fun e he => h2.mono _ _ _ _ k he) h
  · obtain ⟨d1, r, rfl, h⟩ := gCo_inv h
    show g d1 env fun e => gs r e _
    exact h1.mono _ _ _ _ (fun e he => h2.mono _ _ _ _ (fun e2 h2 => ⟨h2.1, h2.2.trans he.2⟩) (h2.fr _ _ _ he.1)) (h1.fr _ _ _ h)
  · obtain ⟨d1, r, rfl, h⟩ := gCo_inv h
    obtain ⟨e1, he⟩ := h1.ex _ _ _ h
    obtain ⟨hl, he2⟩ := h2.ex _ _ _ he
    exact ⟨congrArg (· + 1) hl, he2⟩
def gT (n : Nat) (gs : SGs) : SG := fun d env Q => match d with
  | .tuple xs => gs xs env Q
  | _ => False
theorem mg_tup {ts : List Nat} {tgs : List Expr} {gs : SGs} {k n : Nat} (hc : X.calm = true) (h : MGs X ts tgs gs) (hn : (assignEach tgs X.env).length = n := by rfl) (hst : (assignEach tgs X.env).findIdx? (·.1) = none := by rfl) (hn2 : tgs.length = n := by rfl) : MG X ts (.Tuple tgs k pos) (gT n gs) := by
  refine ⟨⟨fun pins s σ H v u Q I r hq => (pg_tup hc h.run hn hst).run pins s σ H v u Q I r ?_⟩, fun d env P Q k hq => ?_, fun d env Q hq => ?_, fun d env Q hq => ?_⟩
  · obtain ⟨y, dr, F, env, d, re, rv, hm⟩ := hq
    cases d with
    | tuple xs =>
      cases rv with
      | tup q1 q2 q3 => exact ⟨_, _, rfl, re_tuple re q1, by rw [← q3.length]; exact (h.ex _ _ _ hm).1.trans hn2, y, dr, F, env, xs, re, q3, hm⟩
    | _ => exact hm.elim
  · cases d with
    | tuple xs => exact h.mono _ _ _ _ k hq
    | _ => exact hq.elim
  · cases d with
    | tuple xs => exact h.fr _ _ _ hq
    | _ => exact hq.elim
  · cases d with
    | tuple xs => exact (h.ex _ _ _ hq).2
    | _ => exact hq.elim
/-- target = value, the target of any form -/
def sAsgG (m : SE) (g : SG) : SS := fun K env => m env fun d => g d env K.nx
theorem ms_asg {ts : List Nat} {tg : Expr} {g : SG} (ha : ME X false a ma) (hg : MG X ts tg g) (hs : swapsWithSole [tg] a pos.line X.env = pure false := by rfl) (hw : swappedStores [tg] a X.env = pure none := by rfl)
    (h1 : (assignEach [tg] X.env).map (·.2) = [assign tg X.env] := by rfl) : MS X (.Assign [tg] a pos) (sAsgG ma g) := by
  refine ⟨⟨fun pins s σ H E I h => (ps_asg ha.run hg.run hs hw h1).run pins s σ H E I ?_⟩, fun a c env k h => ha.mono _ _ _ (fun d hd => hg.mono _ _ _ _ k.nx hd) h⟩
  obtain ⟨y, dr, F, env, re, hm⟩ := h
  refine ⟨y, dr, F, env, re, ha.mono _ _ _ (fun d hd v H' F' r1 s1 w => ?_) hm⟩
  exact ⟨y, dr, F', env, d, r1, w.rv, hg.mono _ _ _ _ (fun e he F2 σ2 H2 re2 s2 _ => he dr F2 σ2 H2 re2 (s1.trans s2).f) hd⟩
/-- a, b = x, z: both sides written, two local names -/
def sPar (i j : Nat) (m : SA) : SS := fun K env => m env fun ds => match ds with
  | [d, d'] => K.nx ((env.set i (.v d)).set j (.v d'))
  | _ => False
theorem ms_par {i j : Nat} {x z : Str} {m : SA} {px py pt : Pos} {kt k2 pt2} (hc : X.calm = true) (hN : X.N.Nodup) (hi : X.N[i]? = some x) (hj : X.N[j]? = some z) (hij : i ≠ j)
    (hx : X.env.scope.names.lookup x = some .local) (hy : X.env.scope.names.lookup z = some .local) (ha : MA X false [a, c] m)
    (hw : swappedStores [.Tuple [.Name x px, .Name z py] kt pt] (.Tuple [a, c] k2 pt2) X.env = pure (some [x, z]))
    (hs : swapsWithSole [.Tuple [.Name x px, .Name z py] kt pt] (.Tuple [a, c] k2 pt2) pos.line X.env = pure false := by rfl) :
    MS X (.Assign [.Tuple [.Name x px, .Name z py] kt pt] (.Tuple [a, c] k2 pt2) pos) (sPar i j m) := by
  refine ⟨⟨fun pins s σ H E I h => (ps_par hc hN hi hj hij hx hy ha.run hw hs).run pins s σ H E I ?_⟩, fun a c env k h => ha.mono _ _ _ (fun ds hd => ?_) h⟩
  · obtain ⟨y, dr, F, env, re, hm⟩ := h
    refine ⟨y, dr, F, env, re, ha.mono _ _ _ (fun ds hd vs H' F' r1 s1 w => ?_) hm⟩
    have r := rvs_of w
    split at hd
    · cases r with
      | cons q1 q =>
        cases q with
        | cons q2 q =>
          cases q
          exact ⟨_, _, rfl, hd dr F' _ H' ((r1.putV q1).putV q2) s1.f⟩
    · exact hd.elim
  · split at hd
    · exact k.nx _ hd
    · exact hd
def sPar3 (i j l : Nat) (m : SA) : SS := fun K env => m env fun ds => match ds with
  | [d, d', d''] => K.nx (((env.set i (.v d)).set j (.v d')).set l (.v d''))
  | _ => False
theorem ms_par3 {i j l : Nat} {x z w : Str} {m : SA} {b : Expr} {px py pz pt : Pos} {kt k2 pt2} (hc : X.calm = true) (hN : X.N.Nodup) (hi : X.N[i]? = some x) (hj : X.N[j]? = some z) (hl : X.N[l]? = some w) (hij : i ≠ j) (hil : i ≠ l) (hjl : j ≠ l)
    (hx : X.env.scope.names.lookup x = some .local) (hy : X.env.scope.names.lookup z = some .local) (hz : X.env.scope.names.lookup w = some .local) (ha : MA X false [a, b, c] m)
    (hw : swappedStores [.Tuple [.Name x px, .Name z py, .Name w pz] kt pt] (.Tuple [a, b, c] k2 pt2) X.env = pure (some [x, z, w]))
    (hs : swapsWithSole [.Tuple [.Name x px, .Name z py, .Name w pz] kt pt] (.Tuple [a, b, c] k2 pt2) pos.line X.env = pure false := by rfl) :
    MS X (.Assign [.Tuple [.Name x px, .Name z py, .Name w pz] kt pt] (.Tuple [a, b, c] k2 pt2) pos) (sPar3 i j l m) := by
  refine ⟨⟨fun pins s σ H E I h => (ps_par3 hc hN hi hj hl hij hil hjl hx hy hz ha.run hw hs).run pins s σ H E I ?_⟩, fun a c env k h => ha.mono _ _ _ (fun ds hd => ?_) h⟩
  · obtain ⟨y, dr, F, env, re, hm⟩ := h
    refine ⟨y, dr, F, env, re, ha.mono _ _ _ (fun ds hd vs H' F' r1 s1 w => ?_) hm⟩
    have r := rvs_of w
    split at hd
    · cases r with
      | cons q1 q =>
        cases q with
        | cons q2 q =>
          cases q with
          | cons q3 q =>
            cases q
            exact ⟨_, _, _, rfl, hd dr F' _ H' (((r1.putV q1).putV q2).putV q3) s1.f⟩
    · exact hd.elim
  · split at hd
    · exact k.nx _ hd
    · exact hd
end
end Mi

namespace Mi
open PySem PySem.Spec L2
/-! ### walks whose turns are new pairs: enumerate, zip over lists, tuples, texts in any mix -/
section
/-- what is drawn from at `it` -/
structure Dr (P : Program) (w : World) (K : PySem.W.Frag) (it : Addr) (sa : List Addr) (n : Nat) (R : Hp → Prop) (tn : Nat → Heap → Prop) (yv : Nat → V → Prop) : Prop where
  obj : ∀ i h, tn i h → ∃ o, h.get? it = some o ∧ ∀ v, o.data ≠ .cell v
  keep : ∀ i h h', tn i h → (∀ o, h.get? it = some o → h'.get? it = some o) → tn i h'
  gen : ∀ (X : Cx), X.prog = P → X.w = w → X.K = K → X.calm = true → ∀ (pins : List (Addr × Obj)) (σ : L2.St) (H : Hp) (s : Shared), Inv X pins σ H s → R H →
    ∃ (Px : Nat → Value → Prop) (Sx : Heap → Prop), Draws P w X.A.in1 it (it :: sa) n Px (fun i h => tn i h ∧ Sx h) ∧ Sx s.heap ∧ ∀ i u, Px i u → ∃ v, RelV v u ∧ yv i v
variable {P : Program} {w : World} {K : PySem.W.Frag}
theorem in1_handled {A : Around} (h : A.handled = none) : A.in1.handled = none := h
theorem dr_list {a it : Addr} {xs : List V} (hne : a ≠ it) : Dr P w K it [a] xs.length (fun H => SqL K H a xs) (fun i h => h.IsListIter it a i) (fun i v => xs[i]? = some v) where
  obj := fun i h ⟨o, ho, hc, hd⟩ => ⟨o, ho, fun v q => by rw [hd] at q; cases q⟩
  keep := fun i h h' st k => st.at fun o q => k o q
  gen := by
    intro X hP hw hK hc pins σ H s I r
    subst hP hw hK
    obtain ⟨its, rv, p, hz⟩ := I.list r
    have D := Draws.list (prog := X.prog) (w := X.w) (A := X.A.in1) (in1_handled (I.ok.hd hc)) it a hne its.toArray
    have e : its.toArray.size = xs.length := by rw [List.size_toArray, rv.length]
    rw [e] at D
    refine ⟨_, _, D, p.isList, fun i u hu => ?_⟩
    have hu' : its[i]? = some u := by simpa using hu
    cases q : xs[i]? with
    | none =>
      have := List.getElem?_eq_none_iff.mp q
      have h2 := (List.getElem?_eq_some_iff.mp hu').1
      rw [← rv.length] at h2
      omega
    | some v =>
      obtain ⟨u', h1, h2⟩ := rv.get q
      rw [hu'] at h1; cases h1
      exact ⟨v, h2, rfl⟩
theorem dr_tuple {a it : Addr} {xs : List V} (hne : a ≠ it) : Dr P w K it [a] xs.length (fun H => SqT K H a xs) (fun i h => h.IsTupleIter it a i) (fun i v => xs[i]? = some v) where
  obj := fun i h ⟨o, ho, hc, hd⟩ => ⟨o, ho, fun v q => by rw [hd] at q; cases q⟩
  keep := fun i h h' st k => st.at fun o q => k o q
  gen := by
    intro X hP hw hK hc pins σ H s I r
    subst hP hw hK
    obtain ⟨its, rv, p, hz⟩ := I.tuple r
    have D := Draws.tuple (prog := X.prog) (w := X.w) (A := X.A.in1) (in1_handled (I.ok.hd hc)) it a hne its.toArray
    have e : its.toArray.size = xs.length := by rw [List.size_toArray, rv.length]
    rw [e] at D
    refine ⟨_, _, D, p, fun i u hu => ?_⟩
    have hu' : its[i]? = some u := by simpa using hu
    cases q : xs[i]? with
    | none =>
      have := List.getElem?_eq_none_iff.mp q
      have h2 := (List.getElem?_eq_some_iff.mp hu').1
      rw [← rv.length] at h2
      omega
    | some v =>
      obtain ⟨u', h1, h2⟩ := rv.get q
      rw [hu'] at h1; cases h1
      exact ⟨v, h2, rfl⟩
theorem dr_text {it : Addr} {x : Str} {t : Tok} : Dr P w K it [] x.cps.size (fun _ => True) (fun i h => h.IsStrIter it (strIterType x) x t i) (fun i v => ∃ c, x.cps[i]? = some c ∧ v = .str ⟨#[c]⟩) where
  obj := fun i h ⟨o, ho, hc, hd⟩ => ⟨o, ho, fun v q => by rw [hd] at q; cases q⟩
  keep := fun i h h' ⟨o, ho, r⟩ k => ⟨o, k o ho, r⟩
  gen := by
    intro X hP hw hK hc pins σ H s I r
    subst hP hw hK
    have D := Draws.text (prog := X.prog) (w := X.w) (A := X.A.in1) (in1_handled (I.ok.hd hc)) it x t
    refine ⟨_, fun _ => True, ⟨fun i h st => D.live i h st.1, fun i h h' st k => ⟨D.frame i h h' st.1 k, trivial⟩, fun i s Q E hi st hQ => D.item i s Q E hi st.1 fun x h' tk a b c => hQ x h' tk a ⟨b, trivial⟩ c, fun s Q E st hE => D.done s Q E st.1 hE⟩, trivial, fun i u ⟨c, u', h1, h2⟩ => ?_⟩
    subst h2
    exact ⟨.str ⟨#[c]⟩, ⟨_, rfl⟩, c, h1, rfl⟩
/-! a turn's pair is known as an object -/
/-- what a turn of pairs leaves -/
def PairAt (h0 : Heap) (T : Addr) (u1 u2 : Value) (h : Heap) : Prop := h0.objs.size ≤ T ∧ h.get? T = some (nT [u1, u2])
section
variable {prog : Program} {w : World} {A : Around} {elts : List Expr} {kk : Nat} {tpos : Pos}
theorem goes_en {it : Addr} {fp : List Addr} {n : Nat} {Px : Nat → Value → Prop} {St : Nat → Heap → Prop} (k0 : Int) (D : Draws prog w A.in1 it fp n Px St) (e : Addr) (hei : e ≠ it) (hef : e ∉ fp) (hif : it ∈ fp) :
    GoesN prog w A (.Tuple elts kk tpos) e (e :: fp) [e, it] n (fun i h0 v h => ∃ T t x, v = .ref T ∧ Px i x ∧ PairAt h0 T (.int (k0 + (i : Int)) t) x h) (fun i h => (∃ old, IsEnum h e it (k0 + (i : Int)) old) ∧ St i h) := by
  have G := GoesN.enumFrom (elts := elts) (x1 := kk) (pos := tpos) k0 D e hei hef hif
  refine ⟨G.sub, G.frame, fun i s Q E hi st hQ => ?_, G.stops, G.self⟩
  obtain ⟨⟨old, he⟩, hs⟩ := st
  refine wpAny_with_toks (n := s.toks) (Nat.le_refl _) (wpAny_pyNext_enum_itemC D he hs hi hei hef fun x h1 tk px ho st1 hT hz hk htk => ⟨_, rfl, wpAny_letOwnedTupleGo_enum ho fun h2 he2 sb => ?_⟩)
  have hlt : e < s.heap.objs.size := Heap.lt_size he
  replace sb : Heap.SameBut e h1 h2 := sb
  refine hQ _ h2 (tk + 1) ⟨_, tk, x, rfl, px, Nat.le_refl _, sb.extBut _ _ (Nat.ne_of_gt hlt) hT⟩ ⟨⟨x, ?_⟩, D.frame _ _ _ st1 fun b hb o q => sb.extBut _ _ (fun z => hef (z ▸ hb)) q⟩ (fun b o hb q => ?_) htk
  · have : k0 + ((i + 1 : Nat) : Int) = k0 + (i : Int) + 1 := by omega
    rw [this]; exact he2
  · exact sb.extBut _ _ (fun z => hb (by simp [z])) (hk b o (fun z => hb (by simp [z])) (fun z => hb (by simp [z])) q)
theorem goes_zp {z TI TT i1 i2 : Addr} {fp1 fp2 : List Addr} {n1 n2 : Nat} {P1 P2 : Nat → Value → Prop} {St1 St2 : Nat → Heap → Prop} (S : ZipSep2 z TI TT i1 i2 fp1 fp2) (D1 : Draws prog w A.in1 i1 fp1 n1 P1 St1) (D2 : Draws prog w A.in1 i2 fp2 n2 P2 St2) :
    GoesN prog w A (.Tuple elts kk tpos) z (z :: TI :: TT :: (fp1 ++ fp2)) [z, TT, i1, i2] (min n1 n2) (fun i h0 v h => ∃ T x y, v = .ref T ∧ (P1 i x ∧ P2 i y) ∧ PairAt h0 T x y h)
      (fun i h => IsZip h z TI TT .none ∧ IsTupOf2 h TI (.ref i1) (.ref i2) ∧ (∃ a1 a2, IsTupOf2 h TT a1 a2) ∧ St1 i h ∧ St2 i h) := by
  have G := GoesN.zip2 (elts := elts) (x1 := kk) (pos := tpos) S D1 D2
  refine ⟨G.sub, G.frame, fun i s Q E hi st hQ => ?_, G.stops, G.self⟩
  obtain ⟨hz, hI, ⟨a1, a2, hO⟩, s1, s2⟩ := st
  refine wpAny_with_toks (n := s.toks) (Nat.le_refl _) (wpAny_pyNext_zipD2_item S D1 D2 hz hI hO s1 s2 (by omega) (by omega) fun x y h1 tk p1 p2 hz1 hO1 t1 t2 hT hsz hk htk => ⟨_, rfl, wpAny_letOwnedTupleGo_zip hz1 fun h2 hz2 sb => ?_⟩)
  have hlt : z < s.heap.objs.size := Heap.lt_size hz
  replace sb : Heap.SameBut z h1 h2 := sb
  refine hQ _ h2 tk ⟨_, x, y, rfl, ⟨p1, p2⟩, Nat.le_refl _, sb.extBut _ _ (Nat.ne_of_gt hlt) hT⟩ ⟨hz2, sb.extBut _ _ S.TIz (hk _ _ S.TIz S.TITO S.TIi1 S.TIi2 hI), ⟨_, _, sb.extBut _ _ S.TOz hO1⟩, D1.over t1 sb S.zf1, D2.over t2 sb S.zf2⟩ (fun b o hb q => ?_) htk
  exact sb.extBut _ _ (fun c => hb (by simp [c])) (hk b o (fun c => hb (by simp [c])) (fun c => hb (by simp [c])) (fun c => hb (by simp [c])) (fun c => hb (by simp [c])) q)
end
/-- n turns of new pairs -/
def Jp (n : Nat) (R : Hp → Prop) (yp : Nat → V → V → Prop) : It :=
  ⟨fun i H => i < n ∧ R H, fun i H v H' => ∃ T x1 x2 o, TuO o ∧ v = .ref T ∧ H T = none ∧ H' = upd H T (.frz o (.tup [x1, x2])) ∧ yp i x1 x2, fun i H => i = n ∧ R H⟩
theorem turn_pair {elts : List Expr} {kk : Nat} {tpos : Pos} {n : Nat} {R : Hp → Prop} {yp : Nat → V → V → Prop} {fp wr : List Addr} {e : Addr} {tn : Nat → Heap → Prop} (hm : e ∈ fp)
    (obj : ∀ i h, tn i h → ∀ b ∈ fp, ∃ o, h.get? b = some o ∧ ∀ v, o.data ≠ .cell v) (keep : ∀ i h h', tn i h → (∀ b ∈ fp, ∀ o, h.get? b = some o → h'.get? b = some o) → tn i h') (sub : ∀ b ∈ wr, b ∈ fp)
    (gen : ∀ (X : Cx), X.prog = P → X.w = w → X.K = K → X.calm = true → ∀ (pins : List (Addr × Obj)) (σ : L2.St) (H : Hp) (s : Shared), Inv X pins σ H s → R H →
      ∃ (fpS : List Addr) (St : Nat → Heap → Prop) (Yp : Nat → Value → Value → Prop), GoesN P w X.A (.Tuple elts kk tpos) e fpS wr n (fun i h0 v h => ∃ T u1 u2, v = .ref T ∧ Yp i u1 u2 ∧ PairAt h0 T u1 u2 h) St ∧
        (∀ i, tn i s.heap → St i s.heap) ∧ (∀ i h, St i h → tn i h) ∧ ∀ i u1 u2, Yp i u1 u2 → ∃ x1 x2, RelV x1 u1 ∧ RelV x2 u2 ∧ yp i x1 x2)
    (self : ∀ (A : Around) (i : Nat) (s : Shared) (Q : Value → Shared → Prop) (E : Value → Shared → Prop), tn i s.heap → Q (.ref e) s → wpAny (model P w) A (pyIter (.ref e)) Q E s) :
    Turn P w K (.Tuple elts kk tpos) (Jp n R yp) fp e tn where
  mem := hm
  obj := obj
  keep := keep
  item := by
    intro X hP hw hK hc i pins s σ H E I hf st hg
    obtain ⟨fpS, St, Yp, G, t1, t2, t3⟩ := gen X hP hw hK hc pins σ H s I hg.2
    subst hP hw hK
    refine wpAny_mono (G.goes i s (fun v s2 => ∃ x H', Inv X pins σ H' s2 ∧ RelV x v ∧ (Jp n R yp).yld i H x H' ∧ tn (i + 1) s2.heap ∧ ∀ b ∈ fp, H' b = none) E hg.1 (t1 i st) fun v h' tk hY st' hk _ => ?_) (fun r s1 h => h) fun _ _ h => h
    obtain ⟨T, u1, u2, rfl, hy, hT, ho⟩ := hY
    obtain ⟨x1, x2, r1, r2, hyp⟩ := t3 i u1 u2 hy
    have new : ObjOk X.prog X.w (upd H T (.frz (nT [u1, u2]) (.tup [x1, x2]))) h' T (.frz (nT [u1, u2]) (.tup [x1, x2])) :=
      okT (.cons r1 (.cons r2 .nil)) (by show 2 ≤ sizeLine; decide) ho
    have I1 : Inv X pins σ (upd H T (.frz (nT [u1, u2]) (.tup [x1, x2]))) { s with heap := h', toks := tk } := I.turnedNew (ch := wr) hk (fun b hb => hf b (sub b hb)) hT new
    refine ⟨.ref T, _, I1, rfl, ⟨T, x1, x2, _, nT_TuO _, rfl, I.hok.fresh hT, rfl, hyp⟩, t2 _ _ st', fun b hb => ?_⟩
    obtain ⟨o', hb', _⟩ := obj i _ st b hb
    rw [upd_ne (Nat.ne_of_lt (Nat.lt_of_lt_of_le (Heap.lt_size hb') hT))]
    exact (hf b hb).1
  done := by
    intro X hP hw hK hc i pins s σ H E I hf st hg
    obtain ⟨rfl, hR⟩ := hg
    obtain ⟨fpS, St, Yp, G, t1, t2, t3⟩ := gen X hP hw hK hc pins σ H s I hR
    subst hP hw hK
    exact wpAny_mono (G.stops s (fun s1 => Inv X pins σ H s1) E (t1 _ st) fun h' tk hk _ => I.turnedL (ch := wr) hk fun b hb => hf b (sub b hb)) (fun r s1 h => h) fun _ _ h => h
  self := self
theorem walk_pair {n : Nat} {R : Hp → Prop} {yp : Nat → V → V → Prop} : Walk (Jp n R yp) n R (fun i H v H' => ∃ T x1 x2 o, TuO o ∧ v = .ref T ∧ H T = none ∧ H' = upd H T (.frz o (.tup [x1, x2])) ∧ yp i x1 x2) :=
  ⟨fun i H hi h => ⟨hi, h⟩, fun H h => ⟨rfl, h⟩, fun i H x H' _ _ h => h⟩
theorem turn_en {elts : List Expr} {kk : Nat} {tpos : Pos} {it e : Addr} {sa : List Addr} {n : Nat} {R : Hp → Prop} {tn : Nat → Heap → Prop} {yv : Nat → V → Prop} (k0 : Int) (D : Dr P w K it sa n R tn yv) (hne : e ≠ it) (hes : e ∉ sa) :
    Turn P w K (.Tuple elts kk tpos) (Jp n R fun i x1 x2 => x1 = .int (k0 + (i : Int)) ∧ yv i x2) [e, it] e (fun i h => (∃ old, IsEnum h e it (k0 + (i : Int)) old) ∧ tn i h) := by
  refine turn_pair (wr := [e, it]) (by simp) (fun i h st b hb => ?_) (fun i h h' st k => ?_) (fun b hb => hb) (fun X hP hw hK hc pins σ H s I r => ?_) (fun A i s Q E st h => ?_)
  · obtain ⟨⟨old, he⟩, hd⟩ := st
    have e' : b = e ∨ b = it := by simpa using hb
    rcases e' with rfl | rfl
    · exact ⟨_, he, fun v q => nomatch q⟩
    · exact D.obj i h hd
  · obtain ⟨⟨old, he⟩, hd⟩ := st
    exact ⟨⟨old, k e (by simp) _ he⟩, D.keep i h h' hd fun o q => k it (by simp) o q⟩
  · obtain ⟨Px, Sx, DD, hS, hy⟩ := D.gen X hP hw hK hc pins σ H s I r
    have G := goes_en (elts := elts) (kk := kk) (tpos := tpos) k0 DD e hne (by simp only [List.mem_cons, not_or]; exact ⟨hne, hes⟩) (by simp)
    refine ⟨_, _, fun i u1 u2 => (∃ t, u1 = Value.int (k0 + (i : Int)) t) ∧ Px i u2, G.mono fun i h₀ v h _ ⟨T, t, x, a, c, d⟩ => ⟨T, _, x, a, ⟨⟨t, rfl⟩, c⟩, d⟩, fun i st => ⟨st.1, st.2, hS⟩, fun i h st => ⟨st.1, st.2.1⟩, fun i u1 u2 ⟨⟨t, h1⟩, h2⟩ => ?_⟩
    obtain ⟨v, r1, r2⟩ := hy i u2 h2
    exact ⟨.int (k0 + (i : Int)), v, ⟨t, h1⟩, r1, rfl, r2⟩
  · obtain ⟨⟨_, he⟩, _⟩ := st
    exact wpAny_pyIter_enum he h
theorem turn_zp {elts : List Expr} {kk : Nat} {tpos : Pos} {z TI TO i1 i2 : Addr} {sa1 sa2 : List Addr} {n1 n2 : Nat} {R1 R2 : Hp → Prop} {tn1 tn2 : Nat → Heap → Prop} {yv1 yv2 : Nat → V → Prop} (D1 : Dr P w K i1 sa1 n1 R1 tn1 yv1) (D2 : Dr P w K i2 sa2 n2 R2 tn2 yv2)
    (S : ZipSep2 z TI TO i1 i2 (i1 :: sa1) (i2 :: sa2)) :
    Turn P w K (.Tuple elts kk tpos) (Jp (min n1 n2) (fun H => R1 H ∧ R2 H) fun i x1 x2 => yv1 i x1 ∧ yv2 i x2) [z, TI, TO, i1, i2] z (fun i h => IsZip h z TI TO .none ∧ IsTupOf2 h TI (.ref i1) (.ref i2) ∧ (∃ a1 a2, IsTupOf2 h TO a1 a2) ∧ tn1 i h ∧ tn2 i h) := by
  refine turn_pair (wr := [z, TO, i1, i2]) (by simp) (fun i h st b hb => ?_) (fun i h h' st k => ?_) (fun b hb => ?_) (fun X hP hw hK hc pins σ H s I r => ?_) (fun A i s Q E st h => ?_)
  · obtain ⟨hz, hTI, ⟨a1, a2, hTO⟩, h1, h2⟩ := st
    have e' : b = z ∨ b = TI ∨ b = TO ∨ b = i1 ∨ b = i2 := by simpa using hb
    rcases e' with rfl | rfl | rfl | rfl | rfl
    · exact ⟨_, hz, fun v q => nomatch q⟩
    · exact ⟨_, hTI, fun v q => nomatch q⟩
    · exact ⟨_, hTO, fun v q => nomatch q⟩
    · exact D1.obj i h h1
    · exact D2.obj i h h2
  · obtain ⟨hz, hTI, ⟨a1, a2, hTO⟩, h1, h2⟩ := st
    exact ⟨k z (by simp) _ hz, k TI (by simp) _ hTI, ⟨a1, a2, k TO (by simp) _ hTO⟩, D1.keep i h h' h1 fun o q => k i1 (by simp) o q, D2.keep i h h' h2 fun o q => k i2 (by simp) o q⟩
  · simp only [List.mem_cons, List.not_mem_nil, or_false] at hb ⊢
    rcases hb with h | h | h | h <;> simp [h]
  · obtain ⟨Px1, Sx1, DD1, hS1, hy1⟩ := D1.gen X hP hw hK hc pins σ H s I r.1
    obtain ⟨Px2, Sx2, DD2, hS2, hy2⟩ := D2.gen X hP hw hK hc pins σ H s I r.2
    have G := goes_zp (elts := elts) (kk := kk) (tpos := tpos) S DD1 DD2
    refine ⟨_, _, fun i u1 u2 => Px1 i u1 ∧ Px2 i u2, G, fun i st => ⟨st.1, st.2.1, st.2.2.1, ⟨st.2.2.2.1, hS1⟩, st.2.2.2.2, hS2⟩,
      fun i h st => ⟨st.1, st.2.1, st.2.2.1, st.2.2.2.1.1, st.2.2.2.2.1⟩, fun i u1 u2 ⟨h1, h2⟩ => ?_⟩
    obtain ⟨v1, r1, q1⟩ := hy1 i u1 h1
    obtain ⟨v2, r2, q2⟩ := hy2 i u2 h2
    exact ⟨v1, v2, r1, r2, q1, q2⟩
  · exact wpAny_pyIter_zip st.1 h
end
/-! enumerate(v) of anything -/
theorem meets_enumerate_newB1 {v : Value} {o : Obj} {H : Heap → Prop} (B : Begins v o H) :
    Meets (Builtin.«enumerate.__new__» ⟨[.type "enumerate", v], []⟩) (fun _ R s => H s.heap ∧
      R (.ok (.ret (.ref (s.heap.push o).objs.size))) { s with heap := (s.heap.push o).push { cls := .type "enumerate", data := .fields #[.none, .bool false, .ref s.heap.objs.size, rawInt 0, .none, .none] } }) :=
  .of_wp fun prog w A R s h => by
    obtain ⟨hp, g, d, tk, os⟩ := s; obtain ⟨h1, h⟩ := h
    have hsub := sub_enumerate
    have q1 : ∀ {A' : Around} {E : Value → Shared → Prop} {Q : Value → Shared → Prop}, Q (.ref hp.objs.size) ⟨hp.push o, g, d, tk, os⟩ → wpAny (model prog w) A' (pyIter v) Q E ⟨hp, g, d, tk, os⟩ :=
      fun q => B.iter prog w _ _ ⟨hp, g, d, tk, os⟩ _ h1 q
    wp_walk using q1
    refine wpAny_stack_any fun st => wpAny_pure ?_
    split
    · rename_i c _ _ _ _ _
      cases (c == Value.type "enumerate")
      · wp_walk using q1
        exact ⟨_, rfl, h⟩
      · wp_walk using q1
        exact ⟨_, rfl, h⟩
    · wp_walk using q1
      exact ⟨_, rfl, h⟩
theorem enum_begins1 {prog : Program} {w : World} {A : Around} {E : Value → Shared → Prop} {s : Shared} {v : Value} {o : Obj} {H : Heap → Prop} {Q : Value → Shared → Prop} (B : Begins v o H) (h1 : H s.heap)
    (h : ∀ h', IsEnum h' (s.heap.objs.size + 1) s.heap.objs.size 0 .none → h'.get? s.heap.objs.size = some o → h'.objs.size = s.heap.objs.size + 2 →
      (∀ b o, s.heap.get? b = some o → h'.get? b = some o) → Q (.ref (s.heap.objs.size + 1)) { s with heap := h' }) :
    wpAny (model prog w) A (call (.type "enumerate") [v]) Q E s := by
  refine callType_new F.called_enumerate (by decide) (F.typeCall_enumerate_1 _) (F.newCall_enumerate_1 _) (fun obj => F.args_object_init_2 obj _) F.entry_enumerate_new
    (meets_enumerate_newB1 B) ⟨h1, ?_⟩
  have hz : (s.heap.push o).objs.size = s.heap.objs.size + 1 := Heap.size_push ..
  show _ ∧ _
  rw [hz]
  have he : IsEnum ((s.heap.push o).push { cls := .type "enumerate", data := .fields #[.none, .bool false, .ref s.heap.objs.size, rawInt 0, .none, .none] }) (s.heap.objs.size + 1) s.heap.objs.size 0 .none := by
    have := Heap.get?_push_size (s.heap.push o) (o := { cls := .type "enumerate", data := .fields #[.none, .bool false, .ref s.heap.objs.size, rawInt 0, .none, .none] }) rfl
    rw [hz] at this; exact this
  refine ⟨⟨_, he, rfl⟩, h _ he (Heap.get?_push_of_some _ (Heap.get?_push_size _ B.free)) (by rw [Heap.size_push, hz]) fun b o x => Heap.get?_push_of_some _ (Heap.get?_push_of_some _ x)⟩
end Mi

namespace Mi
open PySem PySem.Spec L2
/-! ### what a loop or a comprehension goes through -/
def GOk (b : Bool) (dr : Option Addr) (F H : Hp) (G : Hp → Prop) : Prop :=
  (b = false → ∀ H1, Same F H1 → G H1) ∧ (b = true → ∀ H1, (∀ a o, H a = some o → some a ≠ dr → H1 a = some o) → G H1)
def YOk (K : Fg) (F : Hp) (ds : List D) (G : Hp → Prop) (Y : Nat → Hp → V → Hp → Prop) : Prop :=
  ∀ i H1 x H2, i < ds.length → G H1 → Y i H1 x H2 → ∀ y1 dr1 F1 env1 σ1, Re K y1 dr1 F1 env1 σ1 H1 → Same F F1 → ∃ F2, Ex dr1 F1 H1 F2 H2 ∧ Re K y1 dr1 F2 env1 σ1 H2 ∧ (∃ d, ds[i]? = some d ∧ Rv K F2 d x) ∧ Same H1 H2 ∧ ∀ D, F1 D = none → H1 D ≠ none → F2 D = none
def lI (K : Fg) (b : Bool) (m : SI) : TI := fun σ H R => ∃ y dr F env, Re K y dr F env σ H ∧ m env fun ds => ∀ J H' F' G Y, Re K y dr F' env σ H' → Ex dr F H F' H' → ds.length ≤ sizeLine → Walk J ds.length G Y → GOk b dr F' H' G → YOk K F' ds G Y → R J H'
structure MI (X : Cx) (b : Bool) (tg iter : Expr) (m : SI) : Prop where
  run : PI X tg iter (lI X.G b m)
  mono : ∀ env (P Q : List D → Prop), (∀ d, P d → Q d) → m env P → m env Q
section
variable {X : Cx} {b : Bool} {a c e tg iter : Expr} {ma mc me : SE} {pos : Pos}
/-- an iterable of any of the three kinds -/
def iAny (K : Fg) (tl : TE) : TI := fun σ H R => tl σ H fun x H1 => (∃ a, x = .ref a ∧ (∃ xs, SqL K H1 a xs) ∧ R (Itl K a) H1) ∨ (∃ a, x = .ref a ∧ (∃ xs, SqT K H1 a xs) ∧ R (Itt K a) H1) ∨ (∃ z, x = .str z ∧ R (Its z) H1)
theorem pi_any {l : Expr} {tl : TE} (hl : PE X l tl) : PI X tg l (iAny X.G tl) := by
  refine ⟨fun pins s σ H R I h => ?_⟩
  refine thn (hl.run pins s σ H _ I h) fun v s1 ⟨x, H1, I1, r1, q1⟩ => ?_
  rcases q1 with ⟨a, e, ⟨xs, hq⟩, q⟩ | ⟨a, e, ⟨xs, hq⟩, q⟩ | ⟨z, e, q⟩
  · subst e
    cases r1
    obtain ⟨its, rv, p, hz⟩ := I1.list hq
    refine wpAny_pyIter_list p.isList ?_
    refine ⟨s1.heap.objs.size, [s1.heap.objs.size], _, _, H1, rfl, I1.kept (t' := s1.toks) fun b o e => Heap.get?_push_of_some _ e, turn_list a _, ⟨_, Heap.get?_push_size _ rfl, rfl, rfl⟩, fun b hb => ?_, q⟩
    have e : b = s1.heap.objs.size := by simpa using hb
    subst e
    exact I1.fpOk (Nat.le_refl _) (I1.hok.fresh (Nat.le_refl _))
  · subst e
    cases r1
    obtain ⟨its, rv, p, hz⟩ := I1.tuple hq
    refine wpAny_pyIter_tuple (show s1.heap.IsTuple a its.toArray from p) ?_
    refine ⟨s1.heap.objs.size, [s1.heap.objs.size], _, _, H1, rfl, I1.kept (t' := s1.toks) fun b o e => Heap.get?_push_of_some _ e, turn_tuple a _, ⟨_, Heap.get?_push_size _ rfl, rfl, rfl⟩, fun b hb => ?_, q⟩
    have e : b = s1.heap.objs.size := by simpa using hb
    subst e
    exact I1.fpOk (Nat.le_refl _) (I1.hok.fresh (Nat.le_refl _))
  · subst e
    obtain ⟨t, rfl⟩ := r1
    cases ha : z.cps.all (· < 128)
    · exact wpAny_pyIter_wide ha (pi_one (tk := s1.toks) I1 _ (turn_str _ z t "str_iterator" (.inr rfl)) ⟨_, Heap.get?_push_size _ rfl, rfl, rfl⟩ q)
    · exact wpAny_pyIter_ascii ha (pi_one (tk := s1.toks) I1 _ (turn_str _ z t "str_ascii_iterator" (.inl rfl)) ⟨_, Heap.get?_push_size _ rfl, rfl, rfl⟩ q)
def chars (x : Str) : List D := x.cps.toList.map fun c => .str ⟨#[c]⟩
def itemsOf : D → Option (List D)
  | .list xs => some xs
  | .tuple xs => some xs
  | .str x => some (chars x)
  | _ => none
def iVal (m : SE) : SI := fun env Q => m env fun d => obL (itemsOf d) Q
theorem yAt_ok {F : Hp} {K : Fg} {ds : List D} {vs : List V} {G : Hp → Prop} (rv : Rvs K F ds vs) : YOk K F ds G (YAt vs) := by
  intro i H1 x H2 hi _ hy y1 dr1 F1 env1 σ1 re s
  obtain ⟨rfl, hx⟩ := hy
  obtain ⟨d, h1, h2⟩ := rv.get' hx
  exact ⟨F1, Ex.refl, re, ⟨d, h1, h2.mono s⟩, Same.refl _, fun _ h _ => h⟩
theorem gList {F H : Hp} {K : Fg} {b : Bool} {dr : Option Addr} {a : Addr} {vs : List V} (hb : b = false → F a = some (.lst vs)) (hH : H a = some (.lst vs)) (hd : some a ≠ dr) : GOk b dr F H (fun H1 => SqL K H1 a vs) :=
  ⟨fun z H1 s => SqL.of (s _ _ (hb z)), fun _ H1 k => SqL.of (k _ _ hH hd)⟩
theorem gTup {F H : Hp} {K : Fg} {b : Bool} {dr : Option Addr} {a : Addr} {vs : List V} (hF : SqT K F a vs) (hs : Same F H) (hd : ∀ a, dr = some a → F a = none) : GOk b dr F H (fun H1 => SqT K H1 a vs) := by
  refine ⟨fun _ H1 s => sqT_mono s hF, fun _ H1 k => ?_⟩
  have s1 : Same F H1 := fun c o e => k c o (hs c o e) fun z => by rw [hd c z.symm] at e; cases e
  exact sqT_mono s1 hF
/-- the list that is walked: no draw -/
theorem Vr.listD {K : Fg} {y : Cy} {dr : Option Addr} {F H : Hp} {env : En} {σ : L2.St} (re : Re K y dr F env σ H) {xs : List D} {v : V} (w : Vr K b F env σ (.list xs) v) : ∃ a vs, v = .ref a ∧ H a = some (.lst vs) ∧ xs.length ≤ sizeLine ∧ Rvs K F xs vs ∧ some a ≠ dr ∧ (b = false → F a = some (.lst vs)) := by
  rcases w with w | ⟨z, i, s, e1, e2, e3⟩
  · cases w with
    | lst h1 h2 h3 =>
      refine ⟨_, _, rfl, re.rf.sub _ _ h1, h2, h3, fun e => ?_, fun _ => h1⟩
      rw [(re.rf.drw _ e.symm).1] at h1; cases h1
  · obtain ⟨o, q1, q2⟩ := re.get e1
    cases s with
    | l zs =>
      cases e2
      obtain ⟨a, vs, h1, h2, h3, h4, _, _, h5⟩ := q2
      rw [e3] at q1; cases q1
      cases h1
      exact ⟨a, vs, rfl, h2, h3, h4, h5, fun q => by rw [z] at q; cases q⟩
    | _ => cases e2
theorem chars_len (x : Str) : (chars x).length = x.cps.size := by unfold chars; rw [List.length_map, Array.length_toList]
theorem yStr_ok {F : Hp} {K : Fg} {x : Str} {G : Hp → Prop} : YOk K F (chars x) G (fun i H v H' => H' = H ∧ ∃ c, x.cps[i]? = some c ∧ v = .str ⟨#[c]⟩) := by
  rintro i H1 v H2 hi _ ⟨rfl, c, hc, rfl⟩ y1 dr1 F1 env1 σ1 re s
  refine ⟨F1, Ex.refl, re, ⟨.str ⟨#[c]⟩, ?_, .str _ (by show 1 ≤ sizeLine; rw [sizeLine_eq]; decide)⟩, Same.refl _, fun _ h _ => h⟩
  unfold chars
  rw [List.getElem?_map, Array.getElem?_toList, hc]
  rfl
theorem mi_val (ha : ME X b a ma) : MI X b tg a (iVal ma) := by
  refine ⟨⟨fun pins s σ H R I h => (pi_any ha.run).run pins s σ H R I ?_⟩, fun env P Q k h => ha.mono _ _ _ (fun d hd => obL_mono k hd) h⟩
  obtain ⟨y, dr, F, env, re, hm⟩ := h
  refine ⟨y, dr, F, env, re, ha.mono _ _ _ (fun d hd v H' F' r1 s1 w => ?_) hm⟩
  cases d with
  | list xs =>
    obtain ⟨a, vs, rfl, h1, z, rv, nd, hF⟩ := w.listD r1
    refine .inl ⟨a, rfl, ⟨vs, SqL.of h1⟩, ?_⟩
    have hd : ∀ J H'' F'' G Y, _ := hd
    refine hd _ H' F' _ _ r1 s1 z (by rw [rv.length]; exact walk_list) (gList hF h1 nd) (yAt_ok rv)
  | tuple xs =>
    obtain ⟨a, vs, rfl, h1, z, rv⟩ := w.tuple r1
    refine .inr (.inl ⟨a, rfl, ⟨vs, re_tuple r1 h1⟩, ?_⟩)
    have hd : ∀ J H'' F'' G Y, _ := hd
    refine hd _ H' F' _ _ r1 s1 z (by rw [rv.length]; exact walk_tup) (gTup h1.sq r1.rf.sub fun a e => (r1.rf.drw a e).1) (yAt_ok rv)
  | str x =>
    refine .inr (.inr ⟨x, w.str.1, ?_⟩)
    have hd : ∀ J H'' F'' G Y, _ := hd
    refine hd _ H' F' _ _ r1 s1 (by rw [chars_len]; exact w.str.2) (by rw [chars_len]; exact walk_str) ⟨fun _ _ _ => trivial, fun _ _ _ => trivial⟩ yStr_ok
  | _ => exact hd.elim
/-! ranges -/
def rng (lo hi : Int) : List Int := (List.range (hi - lo).toNat).map fun i => lo + (i : Nat)
def dInts (ns : List Int) : List D := ns.map .int
def iR1 (m : SE) : SI := fun env Q => m env fun d => match d with
  | .int n => (n ≤ 16777216 ∧ -4611686018427387904 ≤ n) ∧ Q (dInts (rng 0 n))
  | _ => False
def iR2 (m m' : SE) : SI := fun env Q => m env fun d => m' env fun d' => match d, d' with
  | .int lo, .int hi => (-4611686018427387904 ≤ lo ∧ lo < 4611686018427387904 ∧ -4611686018427387904 ≤ hi ∧ hi < 4611686018427387904 ∧ hi - lo ≤ 16777216) ∧ Q (dInts (rng lo hi))
  | _, _ => False
theorem rng_len (lo hi : Int) : (dInts (rng lo hi)).length = (hi - lo).toNat := by unfold dInts rng; rw [List.length_map, List.length_map, List.length_range]
theorem yRng_ok {F : Hp} {K : Fg} {lo hi : Int} {G : Hp → Prop} : YOk K F (dInts (rng lo hi)) G (YFn fun i => .int (lo + (i : Int))) := by
  rintro i H1 v H2 hi' _ ⟨rfl, rfl⟩ y1 dr1 F1 env1 σ1 re s
  refine ⟨F1, Ex.refl, re, ⟨.int (lo + (i : Int)), ?_, .int _⟩, Same.refl _, fun _ h _ => h⟩
  rw [rng_len] at hi'
  unfold dInts rng
  rw [List.getElem?_map, List.getElem?_map, List.getElem?_range hi']
  rfl
theorem mi_r1 {p : Pos} (hg : Gl X "range") (hm : X.mg "range" = none) (ha : ME X true a ma) (hs : starEach [a] X.env = [(false, eval a X.env)] := by rfl) : MI X b tg (.Call (.Name "range" p) [a] [] pos) (iR1 ma) := by
  refine ⟨⟨fun pins s σ H R I h => (pi_range1 hg hm (pa_cons ha.run pa_nil hs) hs).run pins s σ H R I ?_⟩, fun env P Q k h => ha.mono _ _ _ (fun d hd => by cases d <;> first | exact ⟨hd.1, k _ hd.2⟩ | exact hd) h⟩
  obtain ⟨y, dr, F, env, re, hm⟩ := h
  refine ⟨y, dr, F, env, re, ha.mono _ _ _ (fun d hd v H' F' r1 s1 w => ?_) hm⟩
  cases d with
  | int n =>
    refine ⟨n, by rw [w.int], by have := hd.1; omega, by have := hd.1; omega, ?_⟩
    exact hd.2 (Itr 0 n.toNat) H' F' (fun _ => True) (YFn fun i => .int (0 + (i : Int))) r1 s1 (by have := hd.1; rw [rng_len, sizeLine_eq]; omega) (by rw [rng_len]; simpa using walk_range (lo := 0) (n := n.toNat)) ⟨fun _ _ _ => trivial, fun _ _ _ => trivial⟩ yRng_ok
  | _ => exact hd.elim
theorem mi_r2 {p : Pos} (hg : Gl X "range") (hm : X.mg "range" = none) (ha : ME X true a ma) (hc : ME X true c mc) (hs : starEach [a, c] X.env = [(false, eval a X.env), (false, eval c X.env)] := by rfl) (hs2 : starEach [c] X.env = [(false, eval c X.env)] := by rfl) :
    MI X b tg (.Call (.Name "range" p) [a, c] [] pos) (iR2 ma mc) := by
  refine ⟨⟨fun pins s σ H R I h => (pi_range2 hg hm (pa_cons ha.run (pa_cons hc.run pa_nil hs2) (by rw [hs, hs2])) hs hs2).run pins s σ H R I ?_⟩, fun env P Q k h => ha.mono _ _ _ (fun d hd => hc.mono _ _ _ (fun d' hd' => by cases d <;> cases d' <;> first | exact ⟨hd'.1, k _ hd'.2⟩ | exact hd') hd) h⟩
  obtain ⟨y, dr, F, env, re, hm⟩ := h
  refine ⟨y, dr, F, env, re, ha.mono _ _ _ (fun d hd v H' F' r1 s1 w => ?_) hm⟩
  refine ⟨y, dr, F', env, r1, hc.mono _ _ _ (fun d' hd' v' H2 F2 r2 s2 w' => ?_) hd⟩
  split at hd'
  · rename_i lo hi
    refine ⟨lo, hi, by rw [w.int, w'.int], by have := hd'.1; omega, ?_⟩
    exact hd'.2 (Itr lo (hi - lo).toNat) H2 F2 (fun _ => True) (YFn fun i => .int (lo + (i : Int))) r2 (s1.trans s2) (by have := hd'.1; rw [rng_len, sizeLine_eq]; omega) (by rw [rng_len]; exact walk_range) ⟨fun _ _ _ => trivial, fun _ _ _ => trivial⟩ yRng_ok
  · exact hd'.elim
/-! with a step -/
def rngN (lo hi c : Int) : Nat := if 0 < c then (if lo < hi then ((hi - lo - 1) / c + 1).toNat else 0) else (if hi < lo then ((lo - hi - 1) / (-c) + 1).toNat else 0)
def rngC (lo hi c : Int) : List Int := (List.range (rngN lo hi c)).map fun i => lo + (i : Nat) * c
theorem rngC_len (lo hi c : Int) : (dInts (rngC lo hi c)).length = rngN lo hi c := by unfold dInts rngC; rw [List.length_map, List.length_map, List.length_range]
theorem yRngC_ok {F : Hp} {K : Fg} {lo hi c : Int} {G : Hp → Prop} : YOk K F (dInts (rngC lo hi c)) G (YFn fun i => .int (lo + (i : Nat) * c)) := by
  rintro i H1 v H2 hi' _ ⟨rfl, rfl⟩ y1 dr1 F1 env1 σ1 re s
  refine ⟨F1, Ex.refl, re, ⟨.int (lo + (i : Nat) * c), ?_, .int _⟩, Same.refl _, fun _ h _ => h⟩
  rw [rngC_len] at hi'
  unfold dInts rngC
  rw [List.getElem?_map, List.getElem?_map, List.getElem?_range hi']
  rfl
def iR3 (m m' m'' : SE) : SI := fun env Q => m env fun d => m' env fun d' => m'' env fun d'' => match d, d', d'' with
  | .int lo, .int hi, .int c => (-1000000000000 ≤ lo ∧ lo ≤ 1000000000000 ∧ -1000000000000 ≤ hi ∧ hi ≤ 1000000000000 ∧ c ≠ 0 ∧ -1000000000 ≤ c ∧ c ≤ 1000000000 ∧ rngN lo hi c ≤ 16777216) ∧ Q (dInts (rngC lo hi c))
  | _, _, _ => False
theorem rgC_ok {lo hi c : Int} (h1 : -1000000000000 ≤ lo) (h2 : lo ≤ 1000000000000) (h3 : -1000000000000 ≤ hi) (h4 : hi ≤ 1000000000000) (h5 : c ≠ 0) (h6 : -1000000000 ≤ c) (h7 : c ≤ 1000000000) (h8 : rngN lo hi c ≤ 16777216) : RgC lo hi c (rngN lo hi c) := by
  have hsz : Builtin.Range.rangeSize lo hi c = rngN lo hi c := by
    unfold Builtin.Range.rangeSize rngN
    by_cases hc : 0 < c
    · simp only [gt_iff_lt, hc, if_true]
      split
      · rename_i hl
        have : 0 ≤ (hi - lo - 1) / c := Int.ediv_nonneg (by omega) (by omega)
        omega
      · rfl
    · simp only [gt_iff_lt, hc, if_false]
      split
      · rename_i hl
        have : 0 ≤ (lo - hi - 1) / (-c) := Int.ediv_nonneg (by omega) (by omega)
        omega
      · rfl
  refine ⟨h5, by omega, ?_, hsz⟩
  unfold Builtin.Range.small
  rw [hsz]
  simp only [Builtin.Range.rangeFitsLong, Bool.and_eq_true, Bool.or_eq_true, decide_eq_true_eq, beq_iff_eq]
  split <;> simp only [Bool.and_eq_true, decide_eq_true_eq] <;> omega
theorem mi_r3 {p : Pos} (hg : Gl X "range") (hm : X.mg "range" = none) (ha : ME X true a ma) (hc : ME X true c mc) (he : ME X true e me) (hs : starEach [a, c, e] X.env = (false, eval a X.env) :: starEach [c, e] X.env := by rfl) (hpl : (backTo pos (starEach [c, e] X.env)).any (·.1) = false := by rfl)
    (hs2 : starEach [c, e] X.env = (false, eval c X.env) :: starEach [e] X.env := by rfl) (hs3 : starEach [e] X.env = (false, eval e X.env) :: starEach [] X.env := by rfl) :
    MI X b tg (.Call (.Name "range" p) [a, c, e] [] pos) (iR3 ma mc me) := by
  refine ⟨⟨fun pins s σ H R I h => (pi_range3 hg hm (pa_cons ha.run (pa_cons hc.run (pa_cons he.run pa_nil hs3) hs2) hs) hs hpl).run pins s σ H R I ?_⟩, fun env P Q k h => ha.mono _ _ _ (fun d hd => hc.mono _ _ _ (fun d' hd' => he.mono _ _ _ (fun d'' hd'' => ?_) hd') hd) h⟩
  · obtain ⟨y, dr, F, env, re, hm⟩ := h
    refine ⟨y, dr, F, env, re, ha.mono _ _ _ (fun d hd v H' F' r1 s1 w => ?_) hm⟩
    refine ⟨y, dr, F', env, r1, hc.mono _ _ _ (fun d' hd' v' H2 F2 r2 s2 w' => ?_) hd⟩
    refine ⟨y, dr, F2, env, r2, he.mono _ _ _ (fun d'' hd'' v'' H3 F3 r3 s3 w'' => ?_) hd'⟩
    split at hd''
    · rename_i lo hi c
      obtain ⟨⟨q1, q2, q3, q4, q5, q6, q7, q8⟩, hq⟩ := hd''
      refine ⟨lo, hi, c, _, by rw [w.int, w'.int, w''.int], rgC_ok q1 q2 q3 q4 q5 q6 q7 q8, ?_⟩
      exact hq (Itc lo c (rngN lo hi c)) H3 F3 (fun _ => True) (YFn fun i => .int (lo + (i : Nat) * c)) r3 ((s1.trans s2).trans s3) (by rw [rngC_len, sizeLine_eq]; exact q8) (by rw [rngC_len]; exact walk_rangeC) ⟨fun _ _ _ => trivial, fun _ _ _ => trivial⟩ yRngC_ok
    · exact hd''.elim
  · split at hd''
    · exact ⟨hd''.1, k _ hd''.2⟩
    · exact hd''
/-! enumerate, zip -/
theorem yPair_ok {F : Hp} {K : Fg} {ds : List D} {G : Hp → Prop} {yp : Nat → V → V → Prop} (h : ∀ i x1 x2, i < ds.length → yp i x1 x2 → ∃ d1 d2, ds[i]? = some (.tuple [d1, d2]) ∧ Rv K F d1 x1 ∧ Rv K F d2 x2) :
    YOk K F ds G (fun i H v H' => ∃ T x1 x2 o, TuO o ∧ v = .ref T ∧ H T = none ∧ H' = upd H T (.frz o (.tup [x1, x2])) ∧ yp i x1 x2) := by
  rintro i H1 v H2 hi' _ ⟨T, x1, x2, o, to, rfl, hT, rfl, hy⟩ y1 dr1 F1 env1 σ1 re s
  obtain ⟨d1, d2, h1, h2, h3⟩ := h i x1 x2 hi' hy
  refine ⟨_, re.ex hT, re.laid hT, ⟨_, h1, Rv.tupNew (re.nF hT) to (by show 2 ≤ sizeLine; rw [sizeLine_eq]; decide) (.cons (h2.mono s) (.cons (h3.mono s) .nil))⟩, upd_grow hT, fun D hD hne => ?_⟩
  rw [upd_ne (fun z => hne (by rw [z]; exact hT))]
  exact hD
/-- a source to draw from: its values and how it begins -/
theorem src_of {K : Fg} {y : Cy} {dr : Option Addr} {F H : Hp} {env : En} {σ : L2.St} {d : D} {v : V} {xs : List D} {pins : List (Addr × Obj)} {s : Shared} {u : Value} (hK : X.G = K) (I : Inv X pins σ H s) (re : Re K y dr F env σ H) (w : Vr K b F env σ d v) (hu : RelV v u) (h : itemsOf d = some xs) :
    ∃ (o : Obj) (Bh : Heap → Prop) (R : Hp → Prop) (sa : List Addr) (yv : Nat → V → Prop), Begins u o Bh ∧ Bh s.heap ∧ R H ∧ (∀ c ∈ sa, c < s.heap.objs.size) ∧ xs.length ≤ sizeLine ∧ GOk b dr F H R ∧
      (∀ i x, i < xs.length → yv i x → ∃ d, xs[i]? = some d ∧ Rv K F d x) ∧ ∀ it, (∀ c ∈ sa, c ≠ it) → ∃ tn : Nat → Heap → Prop, Dr X.prog X.w K it sa xs.length R tn yv ∧ ∀ h, h.get? it = some o → tn 0 h := by
  subst hK
  cases d with
  | list ys =>
    cases h
    obtain ⟨a, vs, rfl, h1, z, rv, nd, hF⟩ := w.listD re
    cases hu
    obtain ⟨its, r, p, _⟩ := I.list (SqL.of h1)
    refine ⟨_, _, fun H => SqL X.G H a vs, [a], fun i v => vs[i]? = some v, begins_list a its.toArray, p.isList, SqL.of h1, ?_, z, gList hF h1 nd, fun i x hi hy => rv.get' hy, fun it hne => ?_⟩
    · intro c hc
      rw [List.mem_singleton.mp hc]
      exact p.lt
    · rw [rv.length]
      exact ⟨_, dr_list (hne a (by simp)), fun h e => ⟨_, e, rfl, rfl⟩⟩
  | tuple ys =>
    cases h
    obtain ⟨a, vs, rfl, h1, z, rv⟩ := w.tuple re
    cases hu
    obtain ⟨its, r, p, _⟩ := I.tuple (re_tuple re h1)
    refine ⟨_, _, fun H => SqT X.G H a vs, [a], fun i v => vs[i]? = some v, begins_tuple a its.toArray, p, re_tuple re h1, ?_, z, gTup h1.sq re.rf.sub fun a e => (re.rf.drw a e).1, fun i x hi hy => rv.get' hy, fun it hne => ?_⟩
    · intro c hc
      rw [List.mem_singleton.mp hc]
      exact p.lt
    · rw [rv.length]
      exact ⟨_, dr_tuple (hne a (by simp)), fun h e => ⟨_, e, rfl, rfl⟩⟩
  | str x =>
    cases h
    have hv := w.str.1
    subst hv
    obtain ⟨t, rfl⟩ := hu
    refine ⟨_, _, fun _ => True, [], fun i v => ∃ c, x.cps[i]? = some c ∧ v = .str ⟨#[c]⟩, begins_text x t, trivial, trivial, ?_, by rw [chars_len]; exact w.str.2, ⟨fun _ _ _ => trivial, fun _ _ _ => trivial⟩, fun i v hi ⟨c, hc, e⟩ => ?_, fun it hne => ?_⟩
    · intro c hc; cases hc
    · subst e
      refine ⟨.str ⟨#[c]⟩, ?_, .str _ (by show 1 ≤ sizeLine; rw [sizeLine_eq]; decide)⟩
      unfold chars
      rw [List.getElem?_map, Array.getElem?_toList, hc]
      rfl
    · rw [chars_len]
      exact ⟨_, dr_text, fun h e => ⟨_, e, rfl, rfl⟩⟩
  | _ => cases h
def pairD (p : D × D) : D := .tuple [p.1, p.2]
def enumL (k : Int) : List D → List D
  | [] => []
  | d :: r => .tuple [.int k, d] :: enumL (k + 1) r
theorem enumL_len : ∀ (k : Int) (xs : List D), (enumL k xs).length = xs.length
  | _, [] => rfl
  | k, _ :: r => congrArg (· + 1) (enumL_len (k + 1) r)
theorem enumL_get : ∀ (k : Int) (xs : List D) (i : Nat) (d : D), xs[i]? = some d → (enumL k xs)[i]? = some (.tuple [.int (k + (i : Int)), d])
  | _, [], _, _, h => by simp at h
  | k, a :: r, 0, d, h => by
    have : a = d := by simpa using h
    subst this
    show some (PyData.tuple [.int k, a]) = _
    simp
  | k, a :: r, i + 1, d, h => by
    show (enumL (k + 1) r)[i]? = _
    rw [enumL_get (k + 1) r i d (by simpa using h)]
    have : k + 1 + (i : Int) = k + ((i + 1 : Nat) : Int) := by omega
    rw [this]
def iEn (k : Int) (m : SE) : SI := fun env Q => m env fun d => obL (itemsOf d) fun xs => Q (enumL k xs)
theorem iEn_mono {k : Int} (ha : ME X b a ma) (env : En) (P Q : List D → Prop) (kk : ∀ d, P d → Q d) (h : iEn k ma env P) : iEn k ma env Q := ha.mono _ _ _ (fun d hd => obL_mono (fun xs h => kk _ h) hd) h
/-- behind the making of the enumerate object -/
theorem en_fin {elts : List Expr} {kk : Nat} {tpos : Pos} {k : Int} {y : Cy} {dr : Option Addr} {F F0 H0 H : Hp} {env : En} {σ : L2.St} {xs : List D} {pins : List (Addr × Obj)} {s : Shared} {h' : Heap} {R : It → Hp → Prop}
    {o : Obj} {Rr : Hp → Prop} {sa : List Addr} {yv : Nat → V → Prop} (I : Inv X pins σ H s) (re : Re X.G y dr F env σ H) (s0 : Ex dr F0 H0 F H)
    (q3 : Rr H) (q4 : ∀ c ∈ sa, c < s.heap.objs.size) (q5 : xs.length ≤ sizeLine) (q6 : GOk b dr F H Rr) (q7 : ∀ i x, i < xs.length → yv i x → ∃ d, xs[i]? = some d ∧ Rv X.G F d x)
    (q8 : ∀ it, (∀ c ∈ sa, c ≠ it) → ∃ tn : Nat → Heap → Prop, Dr X.prog X.w X.G it sa xs.length Rr tn yv ∧ ∀ h, h.get? it = some o → tn 0 h)
    (he : IsEnum h' (s.heap.objs.size + 1) s.heap.objs.size k .none) (ho : h'.get? s.heap.objs.size = some o) (hk : ∀ b o, s.heap.get? b = some o → h'.get? b = some o)
    (hR : ∀ J H' F' G Y, Re X.G y dr F' env σ H' → Ex dr F0 H0 F' H' → (enumL k xs).length ≤ sizeLine → Walk J (enumL k xs).length G Y → GOk b dr F' H' G → YOk X.G F' (enumL k xs) G Y → R J H') :
    PIE X pins σ (.Tuple elts kk tpos) R (.ref (s.heap.objs.size + 1)) { s with heap := h' } := by
  have I2 : Inv X pins σ H { s with heap := h' } := I.kept (t' := s.toks) hk
  obtain ⟨tn, DD, t0⟩ := q8 s.heap.objs.size fun c hc => Nat.ne_of_lt (q4 c hc)
  refine ⟨s.heap.objs.size + 1, [s.heap.objs.size + 1, s.heap.objs.size], _, _, H, rfl, I2, turn_en k DD (Nat.succ_ne_self _) (fun hc => absurd (q4 _ hc) (Nat.not_lt.mpr (Nat.le_succ _))), ⟨⟨.none, by simpa using he⟩, t0 _ ho⟩, fun b hb => ?_, ?_⟩
  · have e' : b = s.heap.objs.size + 1 ∨ b = s.heap.objs.size := by simpa using hb
    have hle : s.heap.objs.size ≤ b := by
      rcases e' with z | z
      · rw [z]; exact Nat.le_add_right _ _
      · rw [z]; exact Nat.le_refl _
    exact I.fpOk hle (I.hok.fresh hle)
  · refine hR _ H F Rr _ re s0 (by rw [enumL_len]; exact q5) (by rw [enumL_len]; exact walk_pair) q6 (yPair_ok fun i x1 x2 hi hy => ?_)
    rw [enumL_len] at hi
    obtain ⟨rfl, hy2⟩ := hy
    obtain ⟨d, h1, h2⟩ := q7 i x2 hi hy2
    exact ⟨.int (k + (i : Int)), d, enumL_get k xs i d h1, .int _, h2⟩
theorem mi_en {elts : List Expr} {kk : Nat} {tpos p : Pos} (hg : Gl X "enumerate") (hm : X.mg "enumerate" = none) (ha : ME X b a ma) (hs : starEach [a] X.env = [(false, eval a X.env)] := by rfl) : MI X b (.Tuple elts kk tpos) (.Call (.Name "enumerate" p) [a] [] pos) (iEn 0 ma) := by
  refine ⟨⟨fun pins s σ H R I h => ?_⟩, iEn_mono ha⟩
  obtain ⟨y, dr, F, env, re, hm2⟩ := h
  refine PyProof.Rows.Call_ (ld_blt I hg hm PyProof.Rows.boot_enumerate (PyProof.Rows.callWith_type1 (thn ((pa_cons ha.run pa_nil hs).run pos pins s σ H (fun vs H1 => ∃ y dr F' env' d v xs, vs = [v] ∧ Re X.G y dr F' env' σ H1 ∧ Vr X.G b F' env' σ d v ∧ itemsOf d = some xs ∧
      ∀ J H' F2 G Y, Re X.G y dr F2 env' σ H' → Ex dr F' H1 F2 H' → (enumL 0 xs).length ≤ sizeLine → Walk J (enumL 0 xs).length G Y → GOk b dr F2 H' G → YOk X.G F2 (enumL 0 xs) G Y → R J H') I ?_) fun us s1 ⟨vs, H1, I1, r1, q1⟩ => ?_) hs rfl))
  · refine ⟨y, dr, F, env, re, ha.mono _ _ _ (fun d hd v H' F' r1 s1 w => ?_) hm2⟩
    cases q : itemsOf d with
    | none => rw [q] at hd; exact hd.elim
    | some xs =>
      rw [q] at hd
      exact ⟨y, dr, F', env, d, v, xs, rfl, r1, w, q, fun J H2 F2 G Y r2 s2 => hd J H2 F2 G Y r2 (s1.trans s2)⟩
  · obtain ⟨y, dr, F, env, d, v, xs, rfl, re1, w, hx, hR⟩ := q1
    cases r1 with
    | cons r rr =>
      cases rr
      obtain ⟨o, Bh, Rr, sa, yv, q1, q2, q3, q4, q5, q6, q7, q8⟩ := src_of (X := X) rfl I1 re1 w r hx
      exact enum_begins1 q1 q2 fun h' he ho hsz hk => wpAny_pyIter_enum he (en_fin I1 re1 Ex.refl q3 q4 q5 q6 q7 q8 he ho hk hR)
end
end Mi

namespace Mi
open PySem PySem.Spec L2
section
variable {X : Cx} {b b' : Bool} {a c e tg iter : Expr} {ma mc me : SE} {pos : Pos}
/-! zip -/
def zipL : List D → List D → List D
  | x :: xs, z :: zs => .tuple [x, z] :: zipL xs zs
  | _, _ => []
theorem zipL_len : ∀ (xs zs : List D), (zipL xs zs).length = min xs.length zs.length
  | [], _ => by simp [zipL]
  | _ :: _, [] => by simp [zipL]
  | x :: xs, z :: zs => by
    show (zipL xs zs).length + 1 = _
    rw [zipL_len xs zs]
    simp only [List.length_cons]
    omega
theorem zipL_get : ∀ (xs zs : List D) (i : Nat) (d d' : D), xs[i]? = some d → zs[i]? = some d' → (zipL xs zs)[i]? = some (.tuple [d, d'])
  | [], _, _, _, _, h, _ => by simp at h
  | _ :: _, [], _, _, _, _, h => by simp at h
  | x :: xs, z :: zs, 0, d, d', h, h' => by
    have h1 : x = d := by simpa using h
    have h2 : z = d' := by simpa using h'
    subst h1; subst h2; rfl
  | x :: xs, z :: zs, i + 1, d, d', h, h' => zipL_get xs zs i d d' (by simpa using h) (by simpa using h')
def iZp (m m' : SE) : SI := fun env Q => m env fun d => m' env fun d' => obL (itemsOf d) fun xs => obL (itemsOf d') fun zs => Q (zipL xs zs)
theorem mi_zip {elts : List Expr} {kk : Nat} {tpos p : Pos} (hg : Gl X "zip") (hm : X.mg "zip" = none) (ha : ME X b a ma) (hc : ME X b c mc)
    (hs : starEach [a, c] X.env = (false, eval a X.env) :: starEach [c] X.env := by rfl) (hpl : (backTo pos (starEach [c] X.env)).any (·.1) = false := by rfl) (hs2 : starEach [c] X.env = (false, eval c X.env) :: starEach [] X.env := by rfl) :
    MI X b (.Tuple elts kk tpos) (.Call (.Name "zip" p) [a, c] [] pos) (iZp ma mc) := by
  refine ⟨⟨fun pins s σ H R I h => ?_⟩, fun env P Q k h => ha.mono _ _ _ (fun d hd => hc.mono _ _ _ (fun d' hd' => obL_mono (fun xs h => obL_mono (fun zs h => k _ h) h) hd') hd) h⟩
  obtain ⟨y, dr, F, env, re, hm2⟩ := h
  refine PyProof.Rows.Call_ (ld_blt I hg hm PyProof.Rows.boot_zip (PyProof.Rows.callWith_type1 (thn ((pa_cons ha.run (pa_cons hc.run pa_nil hs2) hs).run pos pins s σ H (fun vs H1 => ∃ y dr F' env' d v d' v' xs zs, vs = [v, v'] ∧ Re X.G y dr F' env' σ H1 ∧ Vr X.G b F' env' σ d v ∧ itemsOf d = some xs ∧ Vr X.G b F' env' σ d' v' ∧ itemsOf d' = some zs ∧
      ∀ J H' F2 G Y, Re X.G y dr F2 env' σ H' → Ex dr F' H1 F2 H' → (zipL xs zs).length ≤ sizeLine → Walk J (zipL xs zs).length G Y → GOk b dr F2 H' G → YOk X.G F2 (zipL xs zs) G Y → R J H') I ?_) fun us s1 ⟨vs, H1, I1, r1, q1⟩ => ?_) hs hpl))
  · refine ⟨y, dr, F, env, re, ha.mono _ _ _ (fun d hd v H' F' r1 s1 w => ?_) hm2⟩
    refine ⟨y, dr, F', env, r1, hc.mono _ _ _ (fun d' hd' v' H2 F2 r2 s2 w' => ?_) hd⟩
    cases q : itemsOf d with
    | none => rw [q] at hd'; exact hd'.elim
    | some xs =>
      rw [q] at hd'
      cases q' : itemsOf d' with
      | none => rw [q'] at hd'; exact (show False from hd').elim
      | some zs =>
        rw [q'] at hd'
        exact ⟨y, dr, F2, env, d, v, d', v', xs, zs, rfl, r2, w.mono s2, q, w', q', fun J H3 F3 G Y r3 s3 => (show ∀ J H' F' G Y, _ from hd') J H3 F3 G Y r3 ((s1.trans s2).trans s3)⟩
  · obtain ⟨y, dr, F, env, d, v, d', v', xs, zs, rfl, re1, w, hx, w', hx', hR⟩ := q1
    cases r1 with
    | cons r rr =>
      cases rr with
      | cons r' rr =>
        cases rr
        obtain ⟨o1, B1, R1, sa1, yv1, a1, a2, a3, a4, a5, a6, a7, a8⟩ := src_of (X := X) rfl I1 re1 w r hx
        obtain ⟨o2, B2, R2, sa2, yv2, b1, b2, b3, b4, b5, b6, b7, b8⟩ := src_of (X := X) rfl I1 re1 w' r' hx'
        refine zip_begins2 a1 b1 a2 b2 fun h' hz hTI hTO h1 h2 hsz hk => wpAny_pyIter_zip hz ?_
        have I2 : Inv X pins σ H1 { s1 with heap := h' } := I1.kept (t' := s1.toks) hk
        obtain ⟨tn1, D1, t1⟩ := a8 s1.heap.objs.size fun c hc => Nat.ne_of_lt (a4 c hc)
        obtain ⟨tn2, D2, t2⟩ := b8 (s1.heap.objs.size + 1) fun c hc => Nat.ne_of_lt (Nat.lt_succ_of_lt (b4 c hc))
        have no1 : ∀ j, s1.heap.objs.size + j ∉ sa1 := fun j hc => absurd (a4 _ hc) (Nat.not_lt.mpr (Nat.le_add_right _ _))
        have no2 : ∀ j, s1.heap.objs.size + j ∉ sa2 := fun j hc => absurd (b4 _ hc) (Nat.not_lt.mpr (Nat.le_add_right _ _))
        have nj : ∀ {i j : Nat}, i ≠ j → (s1.heap.objs.size + i : Nat) ≠ s1.heap.objs.size + j := fun {i j} h z => h (Nat.add_left_cancel z)
        have S : ZipSep2 (s1.heap.objs.size + 4) (s1.heap.objs.size + 2) (s1.heap.objs.size + 3) s1.heap.objs.size (s1.heap.objs.size + 1) (s1.heap.objs.size :: sa1) ((s1.heap.objs.size + 1) :: sa2) := by
          refine ⟨nj (by decide), nj (by decide), nj (by decide), nj (j := 0) (by decide), List.mem_cons_self, ?_, ?_, nj (by decide), List.mem_cons_self, ?_, ?_, ?_, ?_⟩
          all_goals (simp only [List.mem_cons, not_or])
          · exact ⟨nj (j := 0) (by decide), no1 4⟩
          · exact ⟨nj (j := 0) (by decide), no1 3⟩
          · exact ⟨nj (by decide), no2 4⟩
          · exact ⟨nj (by decide), no2 3⟩
          · exact ⟨nj (i := 0) (by decide), no2 0⟩
          · exact ⟨nj (j := 0) (by decide), no1 1⟩
        refine ⟨s1.heap.objs.size + 4, [s1.heap.objs.size + 4, s1.heap.objs.size + 2, s1.heap.objs.size + 3, s1.heap.objs.size, s1.heap.objs.size + 1], _, _, H1, rfl, I2, turn_zp D1 D2 S, ⟨hz, hTI, ⟨_, _, hTO⟩, t1 _ h1, t2 _ h2⟩, fun c hcm => ?_, ?_⟩
        · have e' : c = s1.heap.objs.size + 4 ∨ c = s1.heap.objs.size + 2 ∨ c = s1.heap.objs.size + 3 ∨ c = s1.heap.objs.size ∨ c = s1.heap.objs.size + 1 := by simpa using hcm
          have hle : s1.heap.objs.size ≤ c := by
            rcases e' with z | z | z | z | z
            · rw [z]; exact Nat.le_add_right _ _
            · rw [z]; exact Nat.le_add_right _ _
            · rw [z]; exact Nat.le_add_right _ _
            · rw [z]; exact Nat.le_refl _
            · rw [z]; exact Nat.le_add_right _ _
          exact I1.fpOk hle (I1.hok.fresh hle)
        · refine hR _ H1 F (fun H => R1 H ∧ R2 H) _ re1 Ex.refl (by rw [zipL_len]; exact Nat.le_trans (Nat.min_le_left _ _) a5) (by rw [zipL_len]; exact walk_pair) ⟨fun z H s => ⟨a6.1 z H s, b6.1 z H s⟩, fun z H k => ⟨a6.2 z H k, b6.2 z H k⟩⟩ (yPair_ok fun i x1 x2 hi hy => ?_)
          rw [zipL_len] at hi
          obtain ⟨d1, g1, g2⟩ := a7 i x1 (by omega) hy.1
          obtain ⟨d2, g3, g4⟩ := b7 i x2 (by omega) hy.2
          exact ⟨d1, d2, zipL_get xs zs i d1 d2 g1 g3, g2, g4⟩
/-! ### for, while -/
def forGo (g : SG) (body : SS) (K : Ks) : List D → En → Prop
  | [], env => K.nx env
  | d :: ds, env => g d env fun e1 => body ⟨fun e => forGo g body K ds e, K.rt, K.nx, fun e => forGo g body K ds e⟩ e1
def sFor (src : SI) (g : SG) (body : SS) : SS := fun K env => src env fun ds => forGo g body K ds env
variable {ts : List Nat} {g : SG} {m : SS} {body : List Stmt} {src : SI}
theorem forGo_mono (hg : ∀ d env (P Q : En → Prop), (∀ e, P e → Q e) → g d env P → g d env Q) (hb : ∀ (a c : Ks) env, KLe a c → m a env → m c env) {a c : Ks} (k : KLe a c) : ∀ (ds : List D) (env : En), forGo g m a ds env → forGo g m c ds env
  | [], env, h => k.nx _ h
  | d :: ds, env, h => hg _ _ _ _ (fun e he => hb ⟨fun e => forGo g m a ds e, a.rt, a.nx, fun e => forGo g m a ds e⟩ _ e ⟨fun e h => forGo_mono hg hb k ds e h, k.rt, k.nx, fun e h => forGo_mono hg hb k ds e h⟩ he) h
theorem ms_for (hp : PassesOwn (model X.prog X.w) X.A X.env X.xe) (hc : X.calm = true) (hi : MI X false tg iter src) (hg : MG X ts tg g) (hb : MSs X body m) (hs : ∀ x, foldedSetIterable iter X.env x = pure x := by intro _; rfl) : MS X (.For tg iter body [] pos) (sFor src g m) := by
  refine ⟨⟨fun pins s σ H E I h => (ps_for hp hc hi.run hg.run hb.run hs).run pins s σ H E I ?_⟩, fun a c env k h => hi.mono _ _ _ (fun ds hd => forGo_mono hg.mono hb.mono k ds env hd) h⟩
  obtain ⟨y, dr, F, env, re, hm⟩ := h
  refine ⟨y, dr, F, env, re, hi.mono _ _ _ (fun ds hds J H' F' G Y re' s' hz W gok yok => ?_) hm⟩
  refine for_it W (fun i σ1 H1 => ∃ dr1 F1 env1, Re X.G y dr1 F1 env1 σ1 H1 ∧ Same F' F1 ∧ forGo g m (kS X.G y F E) (ds.drop i) env1) ⟨dr, F', env, re', Same.refl _, by simpa using hds⟩ (fun i σ1 H1 _ ⟨dr1, F1, env1, r1, s1, _⟩ => gok.1 rfl H1 (s1.trans r1.rf.sub)) (fun i x σ1 H1 H2 hi' ⟨dr1, F1, env1, r1, s1, hf⟩ hy => ?_) (fun σ1 H1 ⟨dr1, F1, env1, r1, s1, hf⟩ => ?_)
  · obtain ⟨F2, s2, r2, ⟨d, hd, rv⟩, _⟩ := yok i H1 x H2 hi' (gok.1 rfl H1 (s1.trans r1.rf.sub)) hy y dr1 F1 env1 σ1 r1 s1
    have e1 : ds.drop i = d :: ds.drop (i + 1) := by
      have hlt := (List.getElem?_eq_some_iff.mp hd).1
      rw [List.drop_eq_getElem_cons hlt, (List.getElem?_eq_some_iff.mp hd).2]
    rw [e1] at hf
    have hf : g d env1 fun e1 => m ⟨fun e => forGo g m (kS X.G y F E) (ds.drop (i + 1)) e, kR X.G y E.rt, kN X.G y F E.nx, fun e => forGo g m (kS X.G y F E) (ds.drop (i + 1)) e⟩ e1 := hf
    refine ⟨y, dr1, F2, env1, d, r2, rv, hg.mono _ _ _ _ (fun e he F3 σ3 H3 r3 s3 _ => ?_) hf⟩
    refine ⟨y, dr1, F3, e, r3, hb.mono ⟨fun e => forGo g m (kS X.G y F E) (ds.drop (i + 1)) e, kR X.G y E.rt, kN X.G y F E.nx, fun e => forGo g m (kS X.G y F E) (ds.drop (i + 1)) e⟩ _ _ ⟨fun e4 h4 dr4 F4 σ4 H4 r4 s4 => ?_, fun _ h => h, fun e4 h4 dr4 F4 σ4 H4 r4 s4 => ?_, fun e4 h4 dr4 F4 σ4 H4 r4 s4 => ?_⟩ he⟩
    · exact ⟨dr4, F4, e4, r4, ((s1.trans s2.f).trans s3.f).trans s4, h4⟩
    · exact h4 dr4 F4 σ4 H4 r4 ((((s'.f.trans s1).trans s2.f).trans s3.f).trans s4)
    · exact ⟨dr4, F4, e4, r4, ((s1.trans s2.f).trans s3.f).trans s4, h4⟩
  · rw [List.drop_length] at hf
    exact hf dr1 F1 σ1 H1 r1 (s'.f.trans s1)
def whGo (t : SB) (body : SS) (K : Ks) : Nat → En → Prop
  | 0, _ => False
  | n + 1, env => t env fun k => if k = true then body ⟨fun e => whGo t body K n e, K.rt, K.nx, fun e => whGo t body K n e⟩ env else K.nx env
def sWhile (t : SB) (body : SS) : SS := fun K env => ∃ n, whGo t body K n env
theorem whGo_mono {t : SB} (ht : ∀ env (P Q : Bool → Prop), (∀ d, P d → Q d) → t env P → t env Q) (hb : ∀ (a c : Ks) env, KLe a c → m a env → m c env) {a c : Ks} (k : KLe a c) : ∀ (n : Nat) (env : En), whGo t m a n env → whGo t m c n env
  | 0, env, h => h
  | n + 1, env, h => ht _ _ _ (fun b hb' => by
      cases b with
      | true => rw [if_pos rfl] at hb' ⊢; exact hb ⟨fun e => whGo t m a n e, a.rt, a.nx, fun e => whGo t m a n e⟩ _ env ⟨fun e h => whGo_mono ht hb k n e h, k.rt, k.nx, fun e h => whGo_mono ht hb k n e h⟩ hb'
      | false => rw [if_neg Bool.false_ne_true] at hb' ⊢; exact k.nx _ hb') h
theorem ms_while {t : Expr} {tt : SB} (hp : PassesOwn (model X.prog X.w) X.A X.env X.xe) (ht : MT X t tt) (hb : MSs X body m) : MS X (.While t body [] pos) (sWhile tt m) := by
  refine ⟨⟨fun pins s σ H E I h => (ps_while hp ht.run hb.run).run pins s σ H E I ?_⟩, fun a c env k ⟨n, h⟩ => ⟨n, whGo_mono ht.mono hb.mono k n env h⟩⟩
  obtain ⟨y, dr, F, env, re, n0, hm⟩ := h
  refine ⟨fun n σ1 H1 => ∃ dr1 F1 env1, Re X.G y dr1 F1 env1 σ1 H1 ∧ Same F F1 ∧ whGo tt m (kS X.G y F E) n env1, ⟨n0, dr, F, env, re, Same.refl _, hm⟩, ?_⟩
  rintro n σ1 H1 ⟨dr1, F1, env1, r1, s1, hw⟩
  cases n with
  | zero => exact hw.elim
  | succ n =>
    refine ⟨y, dr1, F1, env1, r1, ht.mono _ _ _ (fun k hk H2 F2 r2 s2 => ?_) hw⟩
    cases k with
    | true =>
      rw [if_pos rfl] at hk ⊢
      refine ⟨fun σ' H' => ∃ dr1 F1 env1, Re X.G y dr1 F1 env1 σ' H' ∧ Same F F1 ∧ whGo tt m (kS X.G y F E) n env1, fun σ' H' h => ⟨n, Nat.lt_succ_self _, h⟩, ?_⟩
      refine ⟨y, dr1, F2, env1, r2, hb.mono ⟨fun e => whGo tt m (kS X.G y F E) n e, (kS X.G y F E).rt, (kS X.G y F E).nx, fun e => whGo tt m (kS X.G y F E) n e⟩ _ _ ⟨fun e4 h4 dr4 F4 σ4 H4 r4 s4 => ?_, fun _ h => h, fun e4 h4 dr4 F4 σ4 H4 r4 s4 => ?_, fun e4 h4 dr4 F4 σ4 H4 r4 s4 => ?_⟩ hk⟩
      · exact ⟨dr4, F4, e4, r4, (s1.trans s2.f).trans s4, h4⟩
      · exact h4 dr4 F4 σ4 H4 r4 ((s1.trans s2.f).trans s4)
      · exact ⟨dr4, F4, e4, r4, (s1.trans s2.f).trans s4, h4⟩
    | false =>
      rw [if_neg Bool.false_ne_true] at hk ⊢
      exact hk dr1 F2 σ1 H2 r2 (s1.trans s2.f)
/-! ### comprehensions -/
structure MTs (X : Cx) (es : List Expr) (m : SB) : Prop where
  run : PTs X es (lT X.G m)
  mono : ∀ env (P Q : Bool → Prop), (∀ d, P d → Q d) → m env P → m env Q
def tYes' : SB := fun _ Q => Q true
theorem mts_nil : MTs X [] tYes' := by
  refine ⟨⟨fun pins s σ H Q I h => pts_nil.run pins s σ H Q I ?_⟩, fun env P Q k h => k _ h⟩
  obtain ⟨y, dr, F, env, re, hm⟩ := h
  exact hm H F re Ex.refl
theorem mts_one {t : SB} (h : MT X c t) : MTs X [c] t := ⟨pts_one h.run, h.mono⟩
def lcGo (g : SG) (t : SB) (el : SE) (env : En) : List D → (List D → Prop) → Prop
  | [], Q => Q []
  | d :: ds, Q => g d env fun e1 => t e1 fun k => if k = true then el e1 fun r => lcGo g t el env ds fun rs => Q (r :: rs) else lcGo g t el env ds Q
def sLc (src : SI) (own : List Nat) (g : SG) (t : SB) (el : SE) : SL := fun env Q => src env fun ds => lcGo g t el (wipeE env own) ds Q
theorem lcGo_mono {t : SB} {el : SE} (hg : ∀ d env (P Q : En → Prop), (∀ e, P e → Q e) → g d env P → g d env Q) (ht : ∀ env (P Q : Bool → Prop), (∀ d, P d → Q d) → t env P → t env Q) (he : ∀ env (P Q : D → Prop), (∀ d, P d → Q d) → el env P → el env Q) (env : En) :
    ∀ (ds : List D) (P Q : List D → Prop), (∀ r, P r → Q r) → lcGo g t el env ds P → lcGo g t el env ds Q
  | [], P, Q, k, h => k _ h
  | d :: ds, P, Q, k, h => hg _ _ _ _ (fun e1 h1 => ht _ _ _ (fun b hb => by
      cases b with
      | true => rw [if_pos rfl] at hb ⊢; exact he _ _ _ (fun r hr => lcGo_mono hg ht he env ds _ _ (fun rs h => k _ h) hr) hb
      | false => rw [if_neg Bool.false_ne_true] at hb ⊢; exact lcGo_mono hg ht he env ds _ _ k hb) h1) h
/-- into a block: all but one's own objects stands still -/
theorem Re.blkIn {K : Fg} {y : Cy} {dr : Option Addr} {F H : Hp} {env : En} {σ : L2.St} (re : Re K y dr F env σ H) (own : List Nat) :
    ∃ y', Re K y' dr F (wipeE env own) (wipe σ own) H ∧ ∀ (F' H' : Hp) (env2 : En) (σ2 : L2.St), Re K y' dr F' env2 σ2 H' → wipeE env2 own = wipeE env own → wipe σ2 own = wipe σ own → Same F F' →
      Re K y dr F' env σ H' ∧ (∀ p o, H p = some o → some p ≠ dr → (∀ (i : Nat) (s : Sl), env[i]? = some s → s.own = true → σ[i]? ≠ some (some (.ref p))) → H' p = some o) ∧ (∀ p, F p = none → H p ≠ none → F' p = none ∨ ∃ (i : Nat) (s : Sl), env[i]? = some s ∧ s.own = true ∧ σ[i]? = some (some (.ref p))) := by
  let OA : Addr → Prop := fun a => ∃ (i : Nat) (s : Sl), (wipeE env own)[i]? = some s ∧ s.own = true ∧ (wipe σ own)[i]? = some (some (.ref a))
  have wg : ∀ {i : Nat} {s : Sl}, (wipeE env own)[i]? = some s → s.own = true → i ∉ own ∧ env[i]? = some s := fun {i s} h w => by
    have hl : i < env.length := by rw [← wipeE_length env own]; exact (List.getElem?_eq_some_iff.mp h).1
    have hn : i ∉ own := fun hi => by
      rw [wipeE_in hi hl] at h; cases h; cases w
    exact ⟨hn, by rw [← wipeE_get hn]; exact h⟩
  have oa : ∀ {a : Addr}, OA a → ∃ (i : Nat) (s : Sl), i ∉ own ∧ env[i]? = some s ∧ s.own = true ∧ σ[i]? = some (some (.ref a)) := fun {a} ⟨i, s, h1, h2, h3⟩ => by
    obtain ⟨hn, h4⟩ := wg h1 h2
    exact ⟨i, s, hn, h4, h2, by rw [← wipe_get hn]; exact h3⟩
  classical
  let H0 : Hp := fun a => if OA a then none else H a
  have h0s : ∀ {a : Addr} {o : HO}, H0 a = some o → H a = some o := fun {a o} h => by
    show H a = some o
    have h : (if OA a then none else H a) = some o := h
    split at h
    · cases h
    · exact h
  have h0n : ∀ {a : Addr}, ¬ OA a → H0 a = H a := fun {a} h => if_neg h
  have h0o : ∀ {a : Addr}, OA a → H0 a = none := fun {a} h => if_pos h
  refine ⟨⟨F, H0, dr⟩, ⟨⟨re.rf.sub, Same.refl _, fun a h => .inl h, fun a o h _ => h0s h, fun a h => ?_, re.rf.drw, .inr rfl, fun a h => .inl h⟩, by rw [wipeE_length, wipe_length]; exact re.len, fun i s o h1 h2 => ?_, fun i j a s1 s2 h1 h2 o1 o2 h3 h4 => ?_⟩, fun F' H' env2 σ2 r2 we ws sF => ?_⟩
  · cases q : H0 a with
    | none => exact absurd q h
    | some o => rw [h0s q]; simp
  · by_cases hs : s.own = true
    · obtain ⟨hn, h4⟩ := wg h1 hs
      rw [wipe_get hn] at h2
      refine (re.slot i s o h4 h2).keep (Same.refl _) fun a ha w => ?_
      obtain ⟨c, e1, _, e3, _⟩ := (re.slot i s o h4 h2).there w
      rw [ha] at e1; cases e1
      exact ⟨rfl, e3, h0o ⟨i, s, h1, w, by rw [wipe_get hn, h2, ha]⟩⟩
    · by_cases hi : i ∈ own
      · have hl : i < env.length := by rw [← wipeE_length env own]; exact (List.getElem?_eq_some_iff.mp h1).1
        rw [wipeE_in hi hl] at h1; cases h1
        trivial
      · rw [wipeE_get hi] at h1
        rw [wipe_get hi] at h2
        exact (re.slot i s o h1 h2).keep (Same.refl _) fun a ha w => absurd w hs
  · obtain ⟨n1, e1⟩ := wg h1 o1
    obtain ⟨n2, e2⟩ := wg h2 o2
    rw [wipe_get n1] at h3
    rw [wipe_get n2] at h4
    exact re.sep i j a s1 s2 e1 e2 o1 o2 h3 h4
  · have nF : ∀ p, F p = none → H p ≠ none → F' p = none ∨ OA p := fun p h1 h2 => by
      cases q : F' p with
      | none => exact .inl rfl
      | some o =>
        rcases r2.rf.new p (by rw [q]; simp) with z | z
        · exact absurd h1 z
        · by_cases ho : OA p
          · exact .inr ho
          · have z : H0 p = none := z
            rw [h0n ho] at z
            exact absurd z h2
    have keepH : ∀ p o, H p = some o → some p ≠ dr → ¬ OA p → H' p = some o := fun p o h1 h2 h3 => r2.rf.gr p o (by rw [← h1]; exact h0n h3) h2
    have own2 : ∀ {i : Nat} {s : Sl}, i ∉ own → env[i]? = some s → env2[i]? = some s := fun {i s} hn h => by
      rw [← wipeE_get (env := env2) hn, we, wipeE_get hn]; exact h
    have st2 : ∀ {i : Nat} {o : Option V}, i ∉ own → σ[i]? = some o → σ2[i]? = some o := fun {i o} hn h => by
      rw [← wipe_get (σ := σ2) hn, ws, wipe_get hn]; exact h
    refine ⟨⟨⟨r2.rf.sub, re.rf.sup.trans sF, fun a h => ?_, fun a o h hn => ?_, fun a h => ?_, r2.rf.drw, re.rf.drs, re.rf.drn⟩, re.len, fun i s o h1 h2 => ?_, re.sep⟩, fun p o h1 h2 h3 => keepH p o h1 h2 fun h => ?_, fun p h1 h2 => (nF p h1 h2).imp id fun h => ?_⟩
    · rcases r2.rf.new a h with z | z
      · exact re.rf.new a z
      · have z : H0 a = none := z
        by_cases ho : OA a
        · obtain ⟨i, s, _, g1, g2, g3⟩ := oa ho
          obtain ⟨c, e1, _, _, e4, _⟩ := (re.slot i s _ g1 g3).there g2
          cases e1
          exact .inr e4
        · rw [h0n ho] at z
          exact .inr (by
            cases q : y.H0 a with
            | none => rfl
            | some u => exact absurd z (re.rf.dom a (by rw [q]; simp)))
    · have hH := re.rf.gr a o h hn
      have ho : ¬ OA a := fun ho => by
        obtain ⟨i, s, _, g1, g2, g3⟩ := oa ho
        obtain ⟨c, e1, _, _, e4, _⟩ := (re.slot i s _ g1 g3).there g2
        cases e1
        rw [h] at e4; cases e4
      refine keepH a o hH (fun e => ?_) ho
      rcases re.rf.drs with z | z
      · rcases re.rf.drn a e.symm with z' | z'
        · rw [z] at z'; cases z'
        · rw [h] at z'; cases z'
      · exact hn (by rw [e]; exact z)
    · have hH := re.rf.dom a h
      refine r2.rf.dom a ?_
      show H0 a ≠ none
      have ho : ¬ OA a := fun ho => by
        obtain ⟨i, s, _, g1, g2, g3⟩ := oa ho
        obtain ⟨c, e1, _, _, e4, _⟩ := (re.slot i s _ g1 g3).there g2
        cases e1
        exact h e4
      rw [h0n ho]; exact hH
    · by_cases hs : s.own = true
      · obtain ⟨c, e1, e2, e3, e4, e5⟩ := (re.slot i s o h1 h2).there hs
        by_cases hi : i ∈ own
        · have ho : ¬ OA c := fun ho => by
            obtain ⟨j, s', n', g1, g2, g3⟩ := oa ho
            have := re.sep i j c s s' h1 g1 hs g2 (by rw [h2, e1]) g3
            exact n' (by rw [← this]; exact hi)
          refine (re.slot i s o h1 h2).keep sF fun a ha w => ?_
          rw [ha] at e1; cases e1
          refine ⟨?_, (nF c e3 e2).resolve_right ho, e4⟩
          cases q : H c with
          | none => exact absurd q e2
          | some ob => exact keepH c ob q e5 ho
        · have q := r2.slot i s o (own2 hi h1) (st2 hi h2)
          have q2 : SlOk K y dr F' H' o s := q.keep (Same.refl _) fun a ha w => by
            obtain ⟨c', g1, _, g3, _⟩ := q.there w
            rw [ha] at g1 e1; cases g1; cases e1
            exact ⟨rfl, g3, e4⟩
          exact q2
      · exact (re.slot i s o h1 h2).keep sF fun a ha w => absurd w hs
    · obtain ⟨i, s, _, g1, g2, g3⟩ := oa h
      exact h3 i s g1 g2 g3
    · obtain ⟨i, s, _, g1, g2, g3⟩ := oa h
      exact ⟨i, s, g1, g2, g3⟩
end
end Mi

namespace Mi
open PySem PySem.Spec L2
section
variable {X : Cx} {b b' : Bool} {a c e tg iter elt : Expr} {ma mc me el : SE} {pos : Pos} {g : SG} {t : SB} {src : SI} {ifs : List Expr} {scope : Scope} {own : List (Str × Nat)}
theorem lc_red (hi : MI X true tg iter src)
    (hg : ∀ (s : Shared) (H : Hp) (C : Addr) (cl : List (Str × Addr)) (fp : List Addr), MG (X.blk s H scope (compEnvC scope cl C X.env) fp) (own.map (·.2)) tg g)
    (ht : ∀ (s : Shared) (H : Hp) (C : Addr) (cl : List (Str × Addr)) (fp : List Addr), MTs (X.blk s H scope (compEnvC scope cl C X.env) fp) ifs t)
    (he : ∀ (s : Shared) (H : Hp) (C : Addr) (cl : List (Str × Addr)) (fp : List Addr), ME (X.blk s H scope (compEnvC scope cl C X.env) fp) false elt el) {σ : L2.St} {H : Hp} {Q : VK} (h : lF X.G (sLc src (own.map (·.2)) g t el) σ H Q) :
    tLc (lI X.G true src) (lG X.G (own.map (·.2)) g) (lT X.G t) (lE X.G false el) (own.map (·.2)) σ H Q := by
  have hg' := hg {} H 0 [] []
  have ht' := ht {} H 0 [] []
  have he' := he {} H 0 [] []
  obtain ⟨y, dr, F, env, re, hm⟩ := h
  refine ⟨y, dr, F, env, re, hi.mono _ _ _ (fun ds hds J H1 F1 G Y re1 s1 hz W gok yok D hD => ?_) hm⟩
  refine lc_it W (fun i H2 => ∃ F2 accD accV, Re X.G y dr F2 env σ H2 ∧ Ex dr F1 H1 F2 H2 ∧ H2 D = some (.lst accV) ∧ Free y dr F2 env σ D ∧ Rvs X.G F2 accD accV ∧ accD.length ≤ i ∧ i ≤ ds.length ∧
      lcGo g t el (wipeE env (own.map (·.2))) (ds.drop i) fun rs => ∀ p vs H' F', Re X.G y dr F' env σ H' → Ex dr F H F' H' → H' p = some (.lst vs) → Free y dr F' env σ p → Rvs X.G F' (accD ++ rs) vs → (accD ++ rs).length ≤ sizeLine → Q (.ref p) H') ?_ (fun i H2 _ ⟨F2, _, _, _, x2, _⟩ => gok.2 rfl H2 x2.k) ?_ ?_
  · exact ⟨F1, [], [], re1.grown hD, Ex.grown hD, upd_same, re1.free hD, .nil, Nat.le_refl _, Nat.zero_le _, by simpa using hds⟩
  · intro i x H2 H3 hi' ⟨F2, accD, accV, re2, x2, hD2, fr2, rv2, hl2, _, hgo⟩ hy
    obtain ⟨F3, x3, re3, ⟨d, hd, rvd⟩, sm3, hD3⟩ := yok i H2 x H3 hi' (gok.2 rfl H2 x2.k) hy y dr F2 env σ re2 x2.f
    have fr3 : Free y dr F3 env σ D := ⟨hD3 D fr2.nF (by rw [hD2]; simp), fr2.nH, fr2.nd, fr2.no⟩
    have hD3' : H3 D = some (.lst accV) := sm3 _ _ hD2
    obtain ⟨y', rin, out⟩ := re3.blkIn (own.map (·.2))
    have e1 : ds.drop i = d :: ds.drop (i + 1) := by
      have hlt := (List.getElem?_eq_some_iff.mp hd).1
      rw [List.drop_eq_getElem_cons hlt, (List.getElem?_eq_some_iff.mp hd).2]
    rw [e1] at hgo
    have x13 : Ex dr F1 H1 F3 H3 := x2.trans x3
    -- out of the block: the outer state at a later heap
    have back : ∀ (F4 H4 : Hp) (env4 : En) (σ4 : L2.St), Re X.G y' dr F4 env4 σ4 H4 → wipeE env4 (own.map (·.2)) = wipeE env (own.map (·.2)) → wipe σ4 (own.map (·.2)) = wipe σ (own.map (·.2)) → Ex dr F3 H3 F4 H4 →
        Re X.G y dr F4 env σ H4 ∧ H4 D = some (.lst accV) ∧ Free y dr F4 env σ D := fun F4 H4 env4 σ4 r4 we ws x4 => by
      obtain ⟨o1, o2, o3⟩ := out F4 H4 env4 σ4 r4 we ws x4.f
      refine ⟨o1, x4.k _ _ hD3' fr3.nd, ?_, fr3.nH, fr3.nd, fr3.no⟩
      rcases o3 D fr3.nF (by rw [hD3']; simp) with z | ⟨j, s, g1, g2, g3⟩
      · exact z
      · exact absurd g3 (fr3.no j s g1 g2)
    refine ⟨y', dr, F3, _, d, rin, rvd, hg'.mono _ _ _ _ (fun env4 hq F4 σ4 H4 r4 x4 w4 => ?_) (hg'.fr _ _ _ hgo)⟩
    obtain ⟨hq, we⟩ := hq
    have we : wipeE env4 (own.map (·.2)) = wipeE env (own.map (·.2)) := by
      rw [we]
      apply List.ext_getElem?
      intro j
      by_cases hj : j ∈ own.map (·.2)
      · by_cases hl : j < env.length
        · rw [wipeE_in hj hl, wipeE_in hj (by rw [wipeE_length]; exact hl)]
        · rw [List.getElem?_eq_none (by rw [wipeE_length, wipeE_length]; omega), List.getElem?_eq_none (by rw [wipeE_length]; omega)]
      · rw [wipeE_get hj]
    have ww : wipe (wipe σ (own.map (·.2))) (own.map (·.2)) = wipe σ (own.map (·.2)) := by
      apply List.ext_getElem?
      intro j
      by_cases hj : j ∈ own.map (·.2)
      · by_cases hl : j < σ.length
        · rw [wipe_in hj hl, wipe_in hj (by rw [wipe_length]; exact hl)]
        · rw [List.getElem?_eq_none (by rw [wipe_length, wipe_length]; omega), List.getElem?_eq_none (by rw [wipe_length]; omega)]
      · rw [wipe_get hj]
    rw [ww] at w4
    refine ⟨w4, y', dr, F4, env4, r4, ht'.mono _ _ _ (fun k hk H5 F5 r5 x5 => ?_) hq⟩
    cases k with
    | false =>
      rw [if_neg Bool.false_ne_true] at hk ⊢
      obtain ⟨o1, o2, o3⟩ := back F5 H5 env4 σ4 r5 we w4 (x4.trans x5)
      exact ⟨F5, accD, accV, o1, x13.trans (x4.trans x5), o2, o3, rv2.mono ((x3.trans x4).trans x5).f, Nat.le_succ_of_le hl2, hi', hk⟩
    | true =>
      rw [if_pos rfl] at hk ⊢
      refine ⟨y', dr, F5, env4, r5, he'.mono _ _ _ (fun r hr v H6 F6 r6 x6 w6 => ?_) hk⟩
      obtain ⟨o1, o2, o3⟩ := back F6 H6 env4 σ4 r6 we w4 ((x4.trans x5).trans x6)
      have rv6 : Rvs X.G F6 (accD ++ [r]) (accV ++ [v]) := (rv2.mono (((x3.trans x4).trans x5).trans x6).f).append (.cons w6.rv .nil)
      have hlen : (accD ++ [r]).length ≤ i + 1 := by rw [List.length_append]; simpa using hl2
      have hz6 : accV.length < sizeLine := by rw [← rv2.length]; omega
      refine ⟨accV, o2, hz6, F6, accD ++ [r], accV ++ [v], ?_, ?_, upd_same, o3, rv6, hlen, hi', lcGo_mono hg'.mono ht'.mono he'.mono _ _ _ _ (fun rs hh => ?_) hr⟩
      · -- the list has grown: nobody's slot
        refine ⟨⟨fun q u eq => ?_, o1.rf.sup, o1.rf.new, fun q u eq n => ?_, fun q hq => ?_, fun q hq => ?_, o1.rf.drs, o1.rf.drn⟩, o1.len, fun j s o h1 h2 => ?_, o1.sep⟩
        · have hq : q ≠ D := fun z => by rw [z, o3.nF] at eq; cases eq
          rw [upd_ne hq]; exact o1.rf.sub q u eq
        · have hq : q ≠ D := fun z => by rw [z, o3.nH] at eq; cases eq
          rw [upd_ne hq]; exact o1.rf.gr q u eq n
        · have hqD : q ≠ D := fun z => by rw [z, o3.nH] at hq; exact hq rfl
          rw [upd_ne hqD]; exact o1.rf.dom q hq
        · obtain ⟨q1, q2⟩ := o1.rf.drw q hq
          have hqD : q ≠ D := fun z => o3.nd (by rw [← z]; exact hq.symm)
          exact ⟨q1, q2.at (upd_ne hqD)⟩
        · refine (o1.slot j s o h1 h2).keep (Same.refl _) fun q hq w => ?_
          obtain ⟨c', g1, _, g3, g4, _⟩ := (o1.slot j s o h1 h2).there w
          rw [hq] at g1; cases g1
          have : q ≠ D := fun z => o3.no j s h1 w (by rw [h2, hq, z])
          exact ⟨upd_ne this, g3, g4⟩
      · refine ⟨(x13.trans ((x4.trans x5).trans x6)).f, fun q u eq n => ?_⟩
        have hq : q ≠ D := fun z => by rw [z, hD] at eq; cases eq
        rw [upd_ne hq]
        exact (x13.trans ((x4.trans x5).trans x6)).k q u eq n
      · intro p vs H' F' q1 q2 q3 q4 q5 q6
        refine hh p vs H' F' q1 q2 q3 q4 ?_ ?_
        · rw [List.append_assoc] at q5; exact q5
        · rw [List.append_assoc] at q6; exact q6
  · intro H2 ⟨F2, accD, accV, re2, x2, hD2, fr2, rv2, hl2, _, hgo⟩
    rw [List.drop_length] at hgo
    have hgo := (show ∀ p vs H' F', _ from hgo) D accV H2 F2 re2 (s1.trans x2) hD2 fr2 (by rw [List.append_nil]; exact rv2) (by rw [List.append_nil]; omega)
    exact hgo
theorem lc_mono (hi : MI X true tg iter src)
    (hg : ∀ (s : Shared) (H : Hp) (C : Addr) (cl : List (Str × Addr)) (fp : List Addr), MG (X.blk s H scope (compEnvC scope cl C X.env) fp) (own.map (·.2)) tg g)
    (ht : ∀ (s : Shared) (H : Hp) (C : Addr) (cl : List (Str × Addr)) (fp : List Addr), MTs (X.blk s H scope (compEnvC scope cl C X.env) fp) ifs t)
    (he : ∀ (s : Shared) (H : Hp) (C : Addr) (cl : List (Str × Addr)) (fp : List Addr), ME (X.blk s H scope (compEnvC scope cl C X.env) fp) false elt el) (env : En) (P Q : List D → Prop) (k : ∀ d, P d → Q d) (h : sLc src (own.map (·.2)) g t el env P) : sLc src (own.map (·.2)) g t el env Q :=
  hi.mono _ _ _ (fun ds hd => lcGo_mono (hg {} (fun _ => none) 0 [] []).mono (ht {} (fun _ => none) 0 [] []).mono (he {} (fun _ => none) 0 [] []).mono _ ds _ _ k hd) h
theorem mf_lc (hc : X.calm = true) (hN : X.N.Nodup) (hi : MI X true tg iter src) (ok : BlkOk X.N X.env.scope scope own)
    (hg : ∀ (s : Shared) (H : Hp) (C : Addr) (cl : List (Str × Addr)) (fp : List Addr), MG (X.blk s H scope (compEnvC scope cl C X.env) fp) (own.map (·.2)) tg g)
    (ht : ∀ (s : Shared) (H : Hp) (C : Addr) (cl : List (Str × Addr)) (fp : List Addr), MTs (X.blk s H scope (compEnvC scope cl C X.env) fp) ifs t)
    (he : ∀ (s : Shared) (H : Hp) (C : Addr) (cl : List (Str × Addr)) (fp : List Addr), ME (X.blk s H scope (compEnvC scope cl C X.env) fp) false elt el) (hs : ∀ x, foldedSetIterable iter X.env x = pure x := by intro _; rfl) :
    MF X (.ListComp elt [⟨tg, iter, ifs, 0⟩] scope pos) (sLc src (own.map (·.2)) g t el) :=
  ⟨⟨fun pins s σ H Q I h => (pe_lc hc hN hi.run ok (fun a b c d f => (hg a b c d f).run) (fun a b c d f => (ht a b c d f).run) (fun a b c d f => (he a b c d f).run) hs).run pins s σ H Q I (lc_red hi hg ht he h)⟩, lc_mono hi hg ht he⟩
/-- name = [..] on one line, the name a local: a value, or one's own -/
theorem ms_lcO {i : Nat} {x : Str} {py spos : Pos} (hc : X.calm = true) (hN : X.N.Nodup) (hy : X.N[i]? = some x) (hyl : X.env.scope.names.lookup x = some .local)
    (hsw : swapsWith (.ListComp elt [⟨tg, iter, ifs, 0⟩] scope pos) (some (.Name x py)) spos.line X.env = pure true) (hi : MI X true tg iter src) (ok : BlkOk X.N X.env.scope scope own)
    (hg : ∀ (s : Shared) (H : Hp) (C : Addr) (cl : List (Str × Addr)) (fp : List Addr), MG (X.blk s H scope (compEnvC scope cl C X.env) fp) (own.map (·.2)) tg g)
    (ht : ∀ (s : Shared) (H : Hp) (C : Addr) (cl : List (Str × Addr)) (fp : List Addr), MTs (X.blk s H scope (compEnvC scope cl C X.env) fp) ifs t)
    (he : ∀ (s : Shared) (H : Hp) (C : Addr) (cl : List (Str × Addr)) (fp : List Addr), ME (X.blk s H scope (compEnvC scope cl C X.env) fp) false elt el) (hs : ∀ x, foldedSetIterable iter X.env x = pure x := by intro _; rfl) :
    MS X (.Assign [.Name x py] (.ListComp elt [⟨tg, iter, ifs, 0⟩] scope pos) spos) (sOwn i (sLc src (own.map (·.2)) g t el)) := by
  refine ⟨⟨fun pins s σ H E I h => (ps_setLc (te := lE X.G false el) (tt := lT X.G t) (g := lG X.G (own.map (·.2)) g) (wi := lI X.G true src) hc hN hy hyl hsw hi.run ok (fun a b c d f => (hg a b c d f).run) (fun a b c d f => (ht a b c d f).run) (fun a b c d f => (he a b c d f).run) hs).run pins s σ H E I ?_⟩, own_mono (lc_mono hi hg ht he)⟩
  have h2 := own_red (lc_mono hi hg ht he) h
  exact lc_red hi hg ht he h2
theorem asgF_red {i : Nat} {ml : SL} {E : Ends} {σ : L2.St} {H : Hp} (mono : ∀ env (P Q : List D → Prop), (∀ d, P d → Q d) → ml env P → ml env Q) (h : lS X.G (sAsg i (sFr ml)) E σ H) : tAsg (lF X.G ml) (gName i) E σ H := by
  obtain ⟨y, dr, F, env, re, hm⟩ := h
  exact ⟨y, dr, F, env, re, mono _ _ _ (fun xs hd p vs H' F' r1 s1 hp fr rv hz => hd dr _ _ H' ((r1.freeze fr hp).putV (Rv.lstNew fr.nF hz rv)) (s1.trans (Ex.fz fr.nF)).f) hm⟩
theorem ms_lcV {i : Nat} {x : Str} {py spos : Pos} (hc : X.calm = true) (hN : X.N.Nodup) (hy : X.N[i]? = some x) (hyl : X.env.scope.names.lookup x = some .local)
    (hsw : swapsWith (.ListComp elt [⟨tg, iter, ifs, 0⟩] scope pos) (some (.Name x py)) spos.line X.env = pure true) (hi : MI X true tg iter src) (ok : BlkOk X.N X.env.scope scope own)
    (hg : ∀ (s : Shared) (H : Hp) (C : Addr) (cl : List (Str × Addr)) (fp : List Addr), MG (X.blk s H scope (compEnvC scope cl C X.env) fp) (own.map (·.2)) tg g)
    (ht : ∀ (s : Shared) (H : Hp) (C : Addr) (cl : List (Str × Addr)) (fp : List Addr), MTs (X.blk s H scope (compEnvC scope cl C X.env) fp) ifs t)
    (he : ∀ (s : Shared) (H : Hp) (C : Addr) (cl : List (Str × Addr)) (fp : List Addr), ME (X.blk s H scope (compEnvC scope cl C X.env) fp) false elt el) (hs : ∀ x, foldedSetIterable iter X.env x = pure x := by intro _; rfl) :
    MS X (.Assign [.Name x py] (.ListComp elt [⟨tg, iter, ifs, 0⟩] scope pos) spos) (sAsg i (sFr (sLc src (own.map (·.2)) g t el))) := by
  refine ⟨⟨fun pins s σ H E I h => (ps_setLc (te := lE X.G false el) (tt := lT X.G t) (g := lG X.G (own.map (·.2)) g) (wi := lI X.G true src) hc hN hy hyl hsw hi.run ok (fun a b c d f => (hg a b c d f).run) (fun a b c d f => (ht a b c d f).run) (fun a b c d f => (he a b c d f).run) hs).run pins s σ H E I ?_⟩, asg_mono fun env P Q k h => lc_mono hi hg ht he env _ _ (fun d q => k _ q) h⟩
  have h2 := asgF_red (lc_mono hi hg ht he) h
  exact lc_red hi hg ht he h2
end
end Mi

namespace Mi
open PySem PySem.Spec L2
section
variable {X : Cx} {b b' : Bool} {a c e o : Expr} {ma mc me : SE} {pos apos cpos npos : Pos}
theorem gv_own {env : En} {i : Nat} {xs : List D} (h : gv env i = .l xs) : env[i]? = some (.l xs) := gv_some h (by simp)
theorem Re.ownL {K : Fg} {y : Cy} {dr : Option Addr} {F H : Hp} {env : En} {σ : L2.St} (re : Re K y dr F env σ H) {i : Nat} {xs : List D} (h : env[i]? = some (.l xs)) {v : V} (hv : σ[i]? = some (some v)) : ∃ p vs, v = .ref p ∧ H p = some (.lst vs) ∧ xs.length ≤ sizeLine ∧ Rvs K F xs vs := by
  obtain ⟨p, vs, h1, h2, h3, h4, _⟩ := re.slot i _ _ h hv
  cases h1
  exact ⟨p, vs, rfl, h2, h3, h4⟩
def ownL (env : En) (i : Nat) (P : List D → Prop) : Prop := match gv env i with
  | .l xs => P xs
  | _ => False
theorem ownL_some {env : En} {i : Nat} {P : List D → Prop} (h : ownL env i P) : ∃ xs, env[i]? = some (.l xs) ∧ gv env i = .l xs ∧ P xs := by
  unfold ownL at h
  split at h
  · rename_i xs q
    exact ⟨xs, gv_own q, q, h⟩
  · exact h.elim
theorem ownL_mono {env : En} {i : Nat} {P Q : List D → Prop} (k : ∀ xs, P xs → Q xs) (h : ownL env i P) : ownL env i Q := by
  unfold ownL at h ⊢
  split at h
  · exact k _ h
  · exact h
/-- xs.append(e), xs one's own -/
def sApp (i : Nat) (m : SE) : SS := fun K env => ownL env i fun xs => m env fun d => xs.length < 16777216 ∧ K.nx (env.set i (.l (xs ++ [d])))
theorem ms_app {i : Nat} {x : Str} (hv : PE X (.Name x npos) (tVar i)) (he : ME X false e me)
    (hbase : attributeBase (.Name x npos) "append" X.env (eval (.Name x npos) X.env) = eval (.Name x npos) X.env := by rfl)
    (hfew : ((backTo cpos (starEach [e] X.env)).all (fun x => !x.1) && (backToKw cpos (keywordEach [] X.env)).all (fun x => x.1.isSome)
      && decide ([e].length + ([] : List Keyword).length + (if ([] : List Keyword).isEmpty then 0 else 1) < 30)) = true := by rfl)
    (hline : (apos.endLine == cpos.line) = true := by rfl) (hs : starEach [e] X.env = (false, eval e X.env) :: starEach [] X.env := by rfl) (hplain : (backTo cpos (starEach [] X.env)).any (·.1) = false := by rfl)
    (hsw : swapsWith (.Call (.Attribute (.Name x npos) "append" apos) [e] [] cpos) none pos.line X.env = pure false := by rfl) : MS X (.Expr (.Call (.Attribute (.Name x npos) "append" apos) [e] [] cpos) pos) (sApp i me) := by
  refine ⟨⟨fun pins s σ H E I h => (ps_expr (pe_bm PySem.F.plainAttrs_list PySem.F.slot_list_append PySem.F.type_list_append mt_append hv (pa_cons he.run pa_nil hs) hbase hfew hline hs hplain) hsw).run pins s σ H E I ?_⟩,
    fun a c env k h => ownL_mono (fun xs h1 => he.mono _ _ _ (fun d hd => ⟨hd.1, k.nx _ hd.2⟩) h1) h⟩
  obtain ⟨y, dr, F, env, re, hm⟩ := h
  obtain ⟨xs, q, _, hm⟩ := ownL_some hm
  obtain ⟨o, g1, p, vs, g2, g3, _⟩ := re.get q
  subst g2
  refine ⟨.ref p, g1, .inl ⟨rfl, _, SqL.of g3⟩, y, dr, F, env, re, he.mono _ _ _ (fun d hd v H' F' r1 s1 w => ?_) hm⟩
  obtain ⟨p', vs', e1, e2, e3, e4⟩ := r1.ownL q g1
  cases e1
  have hz : xs.length < sizeLine := by rw [sizeLine_eq]; exact hd.1
  refine ⟨p, vs', v, rfl, rfl, e2, by rw [← e4.length]; exact hz, ?_⟩
  exact hd.2 dr F' σ _ (r1.setL q g1 (e4.append (.cons w.rv .nil)) (by rw [List.length_append]; exact hz)) s1.f
/-- xs.extend(e), e a list -/
def sExt (i : Nat) (m : SE) : SS := fun K env => ownL env i fun xs => m env fun d => match d with
  | .list ys => xs.length + ys.length ≤ 16777216 ∧ K.nx (env.set i (.l (xs ++ ys)))
  | _ => False
theorem ms_ext {i : Nat} {x : Str} (hv : PE X (.Name x npos) (tVar i)) (he : ME X true e me)
    (hbase : attributeBase (.Name x npos) "extend" X.env (eval (.Name x npos) X.env) = eval (.Name x npos) X.env := by rfl)
    (hfew : ((backTo cpos (starEach [e] X.env)).all (fun x => !x.1) && (backToKw cpos (keywordEach [] X.env)).all (fun x => x.1.isSome)
      && decide ([e].length + ([] : List Keyword).length + (if ([] : List Keyword).isEmpty then 0 else 1) < 30)) = true := by rfl)
    (hline : (apos.endLine == cpos.line) = true := by rfl) (hs : starEach [e] X.env = (false, eval e X.env) :: starEach [] X.env := by rfl) (hplain : (backTo cpos (starEach [] X.env)).any (·.1) = false := by rfl)
    (hsw : swapsWith (.Call (.Attribute (.Name x npos) "extend" apos) [e] [] cpos) none pos.line X.env = pure false := by rfl) : MS X (.Expr (.Call (.Attribute (.Name x npos) "extend" apos) [e] [] cpos) pos) (sExt i me) := by
  refine ⟨⟨fun pins s σ H E I h => (ps_expr (pe_bm PySem.F.plainAttrs_list PySem.F.slot_list_extend PySem.F.type_list_extend mt_extend hv (pa_cons he.run pa_nil hs) hbase hfew hline hs hplain) hsw).run pins s σ H E I ?_⟩,
    fun a c env k h => ownL_mono (fun xs h1 => he.mono _ _ _ (fun d hd => by cases d <;> first | exact ⟨hd.1, k.nx _ hd.2⟩ | exact hd) h1) h⟩
  obtain ⟨y, dr, F, env, re, hm⟩ := h
  obtain ⟨xs, q, _, hm⟩ := ownL_some hm
  obtain ⟨o, g1, p, vs, g2, g3, _⟩ := re.get q
  subst g2
  refine ⟨.ref p, g1, .inl ⟨rfl, _, SqL.of g3⟩, y, dr, F, env, re, he.mono _ _ _ (fun d hd v H' F' r1 s1 w => ?_) hm⟩
  cases d with
  | list ys =>
    obtain ⟨p', vs', e1, e2, e3, e4⟩ := r1.ownL q g1
    cases e1
    obtain ⟨a2, ws, rfl, f2, f3, f4⟩ := w.list r1
    have hz : xs.length + ys.length ≤ sizeLine := by rw [sizeLine_eq]; exact hd.1
    have l1 := e4.length
    have l2 := f4.length
    refine ⟨p, a2, vs', ws, rfl, rfl, e2, f2, by omega, ?_⟩
    exact hd.2 dr F' σ _ (r1.setL q g1 (e4.append f4) (by rw [List.length_append]; exact hz)) s1.f
  | _ => exact hd.elim
/-- xs[i] = e -/
def sSet (i : Nat) (mi mv : SE) : SS := fun K env => ownL env i fun xs => mv env fun d => mi env fun ix => match ix with
  | .int k => (match ixN xs.length k with
    | some j => K.nx (env.set i (.l (xs.set j d)))
    | none => False)
  | _ => False
theorem Rvs.setAt {K : Fg} {F : Hp} {d : D} {v : V} (r : Rv K F d v) : ∀ {ds : List D} {vs : List V} (i : Nat), Rvs K F ds vs → Rvs K F (ds.set i d) (vs.set i v)
  | _, _, _, .nil => .nil
  | _, _, 0, .cons _ t => .cons r t
  | _, _, i + 1, .cons q t => .cons q (Rvs.setAt r i t)
theorem ms_setL {i : Nat} {x : Str} {spos : Pos} (hv : PE X (.Name x npos) (tVar i)) (hc : ME X true c mc) (he : ME X false e me)
    (ha : ∀ v, assign (.Subscript (.Name x npos) c spos) X.env v = (do
      let ov ← holding [v] (eval (.Name x npos) X.env)
      let iv ← holding [v, ov] (eval c X.env)
      standAt spos
      holding [v, ov, iv] (setItem ov iv v)
      release [v, ov, iv] []) := by intro _; rfl)
    (hs : swapsWithSole [.Subscript (.Name x npos) c spos] e pos.line X.env = pure false := by rfl) (hw : swappedStores [.Subscript (.Name x npos) c spos] e X.env = pure none := by rfl)
    (h1 : (assignEach [.Subscript (.Name x npos) c spos] X.env).map (·.2) = [assign (.Subscript (.Name x npos) c spos) X.env] := by rfl) : MS X (.Assign [.Subscript (.Name x npos) c spos] e pos) (sSet i mc me) := by
  refine ⟨⟨fun pins s σ H E I h => (ps_asg he.run (pg_sub hv hc.run set_list ha) hs hw h1).run pins s σ H E I ?_⟩, fun a c env k h => ownL_mono (fun xs h1 => he.mono _ _ _ (fun d hd => hc.mono _ _ _ (fun ix hi => ?_) hd) h1) h⟩
  · obtain ⟨y, dr, F, env, re, hm⟩ := h
    obtain ⟨xs, q, _, hm⟩ := ownL_some hm
    refine ⟨y, dr, F, env, re, he.mono _ _ _ (fun d hd v H' F' r1 s1 w => ?_) hm⟩
    obtain ⟨o, g1, p, vs, g2, g3, _⟩ := r1.get q
    subst g2
    refine ⟨.ref p, g1, y, dr, F', env, r1, hc.mono _ _ _ (fun ix hi v2 H2 F2 r2 s2 w2 => ?_) hd⟩
    cases ix with
    | int k =>
      obtain ⟨p', vs', e1, e2, e3, e4⟩ := r2.ownL q g1
      cases e1
      cases qj : ixN xs.length k with
      | none =>
        have hi : (match ixN xs.length k with | some j => (kS X.G y F E).nx (env.set i (.l (xs.set j d))) | none => False) := hi
        rw [qj] at hi; exact hi.elim
      | some j =>
        have hi : (match ixN xs.length k with | some j => (kS X.G y F E).nx (env.set i (.l (xs.set j d))) | none => False) := hi
        rw [qj] at hi
        refine ⟨p, vs', k, j, rfl, w2.int, e2, by rw [← e4.length]; exact qj, ?_⟩
        exact hi dr F2 σ _ (r2.setL q g1 (Rvs.setAt (w.mono s2).rv j e4) (by rw [List.length_set]; exact e3)) (s1.trans s2).f
    | _ => exact hi.elim
  · cases ix with
    | int n =>
      revert hi
      show (match ixN xs.length n with | some j => _ | none => False) → (match ixN xs.length n with | some j => _ | none => False)
      intro hi
      cases qj : ixN xs.length n with
      | none => rw [qj] at hi; exact hi
      | some j =>
        rw [qj] at hi
        exact k.nx _ hi
    | _ => exact hi
end
/-! ### calls of defs -/
abbrev Sm := List Sl → (D → Prop) → Prop
/-- closed upwards -/
def up (sm : Sm) (args : List Sl) (Q : D → Prop) : Prop := ∃ P, sm args P ∧ ∀ d, P d → Q d
theorem up_mono {sm : Sm} {args : List Sl} {P Q : D → Prop} (k : ∀ d, P d → Q d) (h : up sm args P) : up sm args Q := by
  obtain ⟨R, h1, h2⟩ := h
  exact ⟨R, h1, fun d hd => k d (h2 d hd)⟩
theorem up_of {sm : Sm} {args : List Sl} {r : D} {Q : D → Prop} (h : sm args fun d => d = r) (q : Q r) : up sm args Q := ⟨_, h, fun d e => by rw [e]; exact q⟩
def RArg (K : Fg) (F : Hp) (dr : Option Addr) : Sl → V → Prop
  | .v d, v => Rv K F d v
  | .dr, v => ∃ a, dr = some a ∧ v = .ref a
  | .sc ns, v => ∃ a, v = .ref a ∧ SqL K F a (ns.map V.int)
  | _, _ => False
def spOf (K : Fg) (sm : Sm) (n : Nat) : Sp := fun vs H Q _ => vs.length = n ∧ ∃ F dr args, Same F H ∧ (∀ a, dr = some a → F a = none ∧ DrOk F H a) ∧ Paired (RArg K F dr) args vs ∧
  up sm args fun d => ∀ v H' F' dr', Rf ⟨F, H, dr⟩ dr' F' H' → Rv K F' d v → Q v H'
/-- what a def's body means: names nN in all -/
def semD (nN : Nat) (m : SS) : Sm := fun args Q => m ⟨fun _ => Q .none, Q, fun _ => False, fun _ => False⟩ (args ++ List.replicate (nN - args.length) .un)
theorem start_re {K : Fg} {F H : Hp} {dr : Option Addr} {args : List Sl} {vs : List V} {N : List Str} (hF : Same F H) (hd : ∀ a, dr = some a → F a = none ∧ DrOk F H a) (hp : Paired (RArg K F dr) args vs) :
    Re K ⟨F, H, dr⟩ dr F (args ++ List.replicate (N.length - args.length) .un) (L2.start N vs) H := by
  have hl : args.length = vs.length := Paired.length hp
  have key : ∀ (i : Nat) (s : Sl) (o : Option V), (args ++ List.replicate (N.length - args.length) Sl.un)[i]? = some s → (L2.start N vs)[i]? = some o → s = .un ∨ ∃ v, o = some v ∧ RArg K F dr s v := by
    intro i s o h1 h2
    by_cases hi : i < args.length
    · right
      rw [List.getElem?_append_left hi] at h1
      unfold L2.start at h2
      rw [List.getElem?_append_left (by rw [List.length_map, ← hl]; exact hi), List.getElem?_map] at h2
      have hv : i < vs.length := by rw [← hl]; exact hi
      have e : vs[i]? = some vs[i] := by simp [hv]
      rw [e] at h2
      obtain ⟨b, g1, g2⟩ := paired_get hp h1
      rw [e] at g1; cases g1
      exact ⟨vs[i], by simpa using h2.symm, g2⟩
    · left
      rw [List.getElem?_append_right (by omega)] at h1
      exact (List.mem_replicate.mp (List.mem_of_getElem? h1)).2
  refine ⟨⟨hF, Same.refl _, fun a h => .inl h, fun a o h _ => h, fun a h => h, hd, .inr rfl, fun a h => .inl h⟩, ?_, fun i s o h1 h2 => ?_, fun i j a s s' h1 h2 o1 o2 h3 h4 => ?_⟩
  · unfold L2.start
    rw [List.length_append, List.length_append, List.length_replicate, List.length_replicate, List.length_map, hl]
  · rcases key i s o h1 h2 with rfl | ⟨v, rfl, r⟩
    · trivial
    · cases s with
      | v d => exact ⟨v, rfl, r⟩
      | dr => obtain ⟨a, h3, h4⟩ := r; exact ⟨a, by rw [h4], h3⟩
      | sc ns => obtain ⟨a, h3, h4⟩ := r; exact ⟨a, by rw [h3], h4⟩
      | _ => exact r.elim
  · rcases key i s _ h1 h3 with rfl | ⟨v, _, r⟩
    · cases o1
    · cases s with
      | v d => cases o1
      | dr => cases o1
      | sc ns => cases o1
      | _ => exact r.elim
/-- THE RULE for a def: its body's meaning is its promise -/
theorem def_ok {P : Program} {w : World} {K : PySem.W.Frag} {mg : Str → Option Value} {base : Heap} {x qual : Str} {st : Stmt} {f : Addr} {fd : FuncData} {N ps : List Str} {k : Nat} {m : SS} (F : Fun K x qual st f fd) (S : FnScope N ps (defScope st))
    (hbody : ∀ (cdv : Value) (A : Around) (outer : List Env) (s : Shared) (H : Hp) (E : XK), Room k (A.deeper (PyProof.Rows.envOfC qual (defScope st) s.heap.objs.size f cdv)) →
      MSs (cxOf CX0 P w K mg base N qual (defScope st) f cdv A outer s H E).nox (defBody st) m) : FnOk P w K mg base CX0 (k + 1) f fd ps (spOf ⟨K, P, w⟩ (semD N.length m) ps.length) := by
  refine F.ok S (fun vs H Q E h => h.1) (fun cdv A outer s H vs Q E hr h => ?_)
  obtain ⟨hl, F0, dr, args, hF, hd, hp, P0, hm, hP⟩ := h
  have M := hbody cdv A outer s H E hr
  refine ⟨_, M.run, ⟨F0, H, dr⟩, dr, F0, _, start_re (K := ⟨K, P, w⟩) (N := N) hF hd hp, M.mono _ _ _ ⟨fun e he dr' F' σ' H' re' s' => ?_, fun d hd2 v dr' F' H' rf rv => ?_, fun _ h => False.elim h, fun _ h => False.elim h⟩ hm⟩
  · exact hP _ he .non H' F' dr' re'.rf .non
  · exact hP _ hd2 v H' F' dr' rf rv
/-! arguments -/
abbrev SR := En → (List Sl → Prop) → Prop
def RArgB (K : Fg) (b : Bool) (F : Hp) (dr : Option Addr) (env : En) (σ : L2.St) : Sl → V → Prop
  | .v d, v => Vr K b F env σ d v
  | .dr, v => ∃ a, dr = some a ∧ v = .ref a
  | _, _ => False
def lR (K : Fg) (b : Bool) (m : SR) : TA := fun σ H Q => ∃ y dr F env, Re K y dr F env σ H ∧ m env fun args => ∀ vs H' F', Re K y dr F' env σ H' → Ex dr F H F' H' → Paired (RArgB K b F' dr env σ) args vs → Q vs H'
structure MR (X : Cx) (b : Bool) (es : List Expr) (m : SR) : Prop where
  run : PA X es (lR X.G b m)
  mono : ∀ env (P Q : List Sl → Prop), (∀ d, P d → Q d) → m env P → m env Q
  len : ∀ env (P : List Sl → Prop), m env P → m env fun ds => ds.length = es.length ∧ P ds
section
variable {X : Cx} {b b' : Bool} {a c e o : Expr} {es : List Expr} {ma mc me : SE} {mr : SR} {pos apos cpos npos : Pos}
def rNil : SR := fun _ Q => Q []
def rCons (m : SE) (r : SR) : SR := fun env Q => m env fun d => r env fun ds => Q (.v d :: ds)
def rDr (i : Nat) (r : SR) : SR := fun env Q => gv env i = .dr ∧ r env fun ds => Q (.dr :: ds)
theorem RArgB.up {K : Fg} {dr' : Option Addr} {F F' H H' : Hp} {dr : Option Addr} {env : En} {σ : L2.St} {s : Sl} {v : V} (h : Ex dr' F H F' H') (r : RArgB K b F dr env σ s v) : RArgB K b F' dr env σ s v := by
  cases s with
  | v d => exact Vr.mono h r
  | dr => exact r
  | _ => exact r.elim
theorem mr_nil : MR X b [] rNil := by
  refine ⟨⟨fun pos pins s σ H Q I h => pa_nil.run pos pins s σ H Q I ?_⟩, fun env P Q k h => k _ h, fun env P h => ⟨rfl, h⟩⟩
  obtain ⟨y, dr, F, env, re, hm⟩ := h
  exact hm [] H F re Ex.refl .nil
theorem mr_cons (ha : ME X b e me) (hr : MR X b es mr) (hs : starEach (e :: es) X.env = (false, eval e X.env) :: starEach es X.env := by rfl) : MR X b (e :: es) (rCons me mr) := by
  refine ⟨⟨fun pos pins s σ H Q I h => (pa_cons ha.run hr.run hs).run pos pins s σ H Q I ?_⟩, fun env P Q k h => ha.mono _ _ _ (fun d h1 => hr.mono _ _ _ (fun ds h2 => k _ h2) h1) h,
    fun env P h => ha.mono _ _ _ (fun d h1 => hr.mono _ _ _ (fun ds h2 => ⟨congrArg (· + 1) h2.1, h2.2⟩) (hr.len _ _ h1)) h⟩
  obtain ⟨y, dr, F, env, re, hm⟩ := h
  refine ⟨y, dr, F, env, re, ha.mono _ _ _ (fun d hd v H1 F1 r1 s1 w1 => ?_) hm⟩
  exact ⟨y, dr, F1, env, r1, hr.mono _ _ _ (fun ds hds vs H2 F2 r2 s2 w2 => hds (v :: vs) H2 F2 r2 (s1.trans s2) (.cons (Vr.mono s2 w1) w2)) hd⟩
theorem mr_dr {i : Nat} (hv : PE X e (tVar i)) (hr : MR X b es mr) (hs : starEach (e :: es) X.env = (false, eval e X.env) :: starEach es X.env := by rfl) : MR X b (e :: es) (rDr i mr) := by
  refine ⟨⟨fun pos pins s σ H Q I h => (pa_cons hv hr.run hs).run pos pins s σ H Q I ?_⟩, fun env P Q k h => ⟨h.1, hr.mono _ _ _ (fun ds h2 => k _ h2) h.2⟩,
    fun env P h => ⟨h.1, hr.mono _ _ _ (fun ds h2 => ⟨congrArg (· + 1) h2.1, h2.2⟩) (hr.len _ _ h.2)⟩⟩
  obtain ⟨y, dr, F, env, re, hg, hm⟩ := h
  obtain ⟨o, e1, p, e2, e3⟩ := re.get (gv_some hg (by simp))
  subst e2
  exact ⟨.ref p, e1, y, dr, F, env, re, hr.mono _ _ _ (fun ds hds vs H2 F2 r2 s2 w2 => hds (.ref p :: vs) H2 F2 r2 s2 (.cons ⟨p, e3, rfl⟩ w2)) hm⟩
def sCall (n : Nat) (sm : Sm) (mr : SR) : SE := fun env Q => mr env fun args => up sm args Q
theorem paired_imp {α β : Type} {F G : α → β → Prop} : ∀ {l : List α} {m : List β}, Paired F l m → (∀ a b, F a b → G a b) → Paired G l m
  | _, _, .nil, _ => .nil
  | _, _, .cons a b, h => .cons (h _ _ a) (paired_imp b h)
theorem Rf.forget {y : Cy} {dr : Option Addr} {F H : Hp} (a : Rf y dr F H) (h : y.dr0 = none) : Rf y none F H :=
  ⟨a.sub, a.sup, a.new, a.gr, a.dom, fun _ e => (nomatch e), .inl h, fun _ e => (nomatch e)⟩
theorem Re.called {K : Fg} {y : Cy} {dr dr' : Option Addr} {F F' H H' : Hp} {env : En} {σ : L2.St} (re : Re K y dr F env σ H) (rf : Rf ⟨F, H, dr⟩ dr' F' H') : Re K y dr F' env σ H' ∧ Ex dr F H F' H' := by
  have rf' : Rf ⟨F, H, dr⟩ dr F' H' := by
    rcases rf.drs with z | z
    · have z : dr = none := z
      subst z
      exact rf.forget rfl
    · have z : dr' = dr := z
      rw [z] at rf; exact rf
  exact ⟨re.back rf', rf.sup, fun c o h n => rf.gr c o h n⟩
/-- f(..): the arguments by value (or the draw) -/
theorem me_call {k n : Nat} {f : Addr} {fd : FuncData} {ps : List Str} {sm : Sm} {x : Str} {p : Pos} (Fo : FnOk X.prog X.w X.G X.mg X.base CX0 k f fd ps (spOf X.G sm n)) (hn : ps.length = n) (hr : Room k X.A) (hm : X.mg x = some (.ref f)) (hk : PySem.W.keepIn X.G (.ref f) = true) (hb : Binds X.G fd ps [])
    (hl : (e :: es).length = n) (ha : MR X false (e :: es) mr) (hg : Gl X x := by rfl) (hdb : (x == ("__debug__" : Str)) = false := by decide) (he : starEach (e :: es) X.env = (false, eval e X.env) :: starEach es X.env := by rfl) (hpl : (backTo pos (starEach es X.env)).any (·.1) = false := by rfl) :
    ME X b (.Call (.Name x p) (e :: es) [] pos) (sCall n sm mr) := by
  refine ⟨⟨fun pins s σ H Q I h => (pe_call Fo hr hg hm hk hb .nil pass0 ha.run hdb he hpl).run pins s σ H Q I ?_⟩, fun env P Q k h => ha.mono _ _ _ (fun args h1 => up_mono k h1) h⟩
  obtain ⟨y, dr, F, env, re, hm⟩ := h
  refine ⟨y, dr, F, env, re, ha.mono _ _ _ (fun args h1 vs H1 F1 r1 s1 w1 => ?_) (ha.len _ _ hm)⟩
  have hlen : args.length = vs.length := Paired.length w1
  refine ⟨by rw [List.append_nil, ← hlen]; exact h1.1.trans hl, F1, dr, args, r1.rf.sub, r1.rf.drw, ?_, up_mono (fun d hd v H' F' dr' rf rv => ?_) h1.2⟩
  · rw [List.append_nil]
    refine paired_imp w1 fun s v r => ?_
    cases s with
    | v d => exact Vr.rv r
    | dr => exact r
    | _ => exact r.elim
  · obtain ⟨r2, x2⟩ := r1.called rf
    exact hd v H' F' r2 (s1.trans x2) (.inl rv)
end
end Mi

namespace Mi
open PySem PySem.Spec L2
/-! ### the draw -/
def spNext : Sp := fun vs H Q _ => ∃ (a : Addr) (k : Int) (F : Hp), vs = [.ref a, .int k] ∧ Same F H ∧ F a = none ∧ DrOk F H a ∧ 0 < k ∧ k < 1073741824 ∧
  ∀ n H', 0 ≤ n → n < k → Same F H' → DrOk F H' a → (∀ b, b ≠ a → H' b = H b) → Q (.int n) H'
section
variable {X : Cx} {b : Bool} {e : Expr} {me : SE} {pos npos : Pos}
def sNext (i : Nat) (m : SE) : SE := fun env Q => gv env i = .dr ∧ m env fun d => match d with
  | .int k => (0 < k ∧ k < 1073741824) ∧ ∀ n : Int, 0 ≤ n → n < k → Q (.int n)
  | _ => False
theorem me_next {k i : Nat} {f : Addr} {fd : FuncData} {ps : List Str} {x z : Str} {p : Pos} (Fo : FnOk X.prog X.w X.G X.mg X.base CX0 k f fd ps spNext) (hr : Room k X.A) (hm : X.mg x = some (.ref f)) (hk : PySem.W.keepIn X.G (.ref f) = true) (hb : Binds X.G fd ps [])
    (hv : PE X (.Name z npos) (tVar i)) (he : ME X true e me) (hg : Gl X x := by rfl) (hdb : (x == ("__debug__" : Str)) = false := by decide) (hs : starEach [.Name z npos, e] X.env = (false, eval (.Name z npos) X.env) :: starEach [e] X.env := by rfl)
    (hs2 : starEach [e] X.env = (false, eval e X.env) :: starEach [] X.env := by rfl) (hpl : (backTo pos (starEach [e] X.env)).any (·.1) = false := by rfl) :
    ME X b (.Call (.Name x p) [.Name z npos, e] [] pos) (sNext i me) := by
  refine ⟨⟨fun pins s σ H Q I h => (pe_call Fo hr hg hm hk hb .nil pass0 (pa_cons hv (pa_cons he.run pa_nil hs2) hs) hdb hs hpl).run pins s σ H Q I ?_⟩, fun env P Q k h => ⟨h.1, he.mono _ _ _ (fun d hd => by cases d <;> first | exact ⟨hd.1, fun n h1 h2 => k _ (hd.2 n h1 h2)⟩ | exact hd) h.2⟩⟩
  obtain ⟨y, dr, F, env, re, hg, hm⟩ := h
  obtain ⟨o, e1, q, e2, e3⟩ := re.get (gv_some hg (by simp))
  subst e2
  refine ⟨.ref q, e1, y, dr, F, env, re, he.mono _ _ _ (fun d hd v H1 F1 r1 s1 w1 => ?_) hm⟩
  cases d with
  | int j =>
    obtain ⟨⟨h0, h1⟩, hq⟩ := hd
    obtain ⟨g1, g2⟩ := r1.rf.drw q e3
    refine ⟨q, j, F1, by rw [w1.int]; rfl, r1.rf.sub, g1, g2, h0, h1, fun n H2 h3 h4 sF hD hk2 => ?_⟩
    have rf : Rf ⟨F1, H1, dr⟩ dr F1 H2 := by
      refine ⟨sF, Same.refl _, fun c h => .inl h, fun c o h hn => ?_, fun c h => ?_, fun c h => ?_, .inr rfl, fun c h => .inl h⟩
      · rw [hk2 c fun z => hn (by rw [z]; exact e3.symm)]; exact h
      · by_cases hc : c = q
        · subst hc
          obtain ⟨_, _, _, _, _, z, _⟩ := hD
          rw [z]; simp
        · rw [hk2 c hc]; exact h
      · have hcq : c = q := Option.some.inj (h.symm.trans e3)
        subst hcq
        exact ⟨g1, hD⟩
    obtain ⟨r2, x2⟩ := r1.called rf
    exact hq n h3 h4 _ H2 F1 r2 (s1.trans x2) (.inl (.int _))
  | _ => exact hd.elim
end
/-! its body -/
section
variable {P : Program} {w : World} {K : Fg} {mg : Str → Option Value} {base : Heap} {st : Stmt}
abbrev nmNext : List Str := ["draw", "many", "found", "cell"]
structure BtN (mg : Str → Option Value) : Prop where
  len : mg "len" = none
  abs : mg "abs" = none
  int : mg "int" = none
/-- the def's body, the position of each node open -/
theorem drIx {a : Addr} {xs : List V} {H : Hp} {v : V} {i : Nat} {Q : VK} (h : H a = some (.lst xs)) (hv : xs[i]? = some v) (q : Q v H) : rIxL K (.ref a) (.int (i : Int)) H Q := ⟨a, xs, _, v, rfl, rfl, SqL.of h, atI_nat hv, q⟩
end
end Mi

namespace Mi
open PySem PySem.Spec L2
/-! ### a def of the top's, as its callers use it -/
def Df (P : Program) (w : World) (K : PySem.W.Frag) (mg : Str → Option Value) (base : Heap) (x : Str) (k : Nat) (ps : List Str) (sp : Sp) : Prop :=
  ∃ (f : Addr) (fd : FuncData), mg x = some (.ref f) ∧ PySem.W.keepIn K (.ref f) = true ∧ Binds K fd ps [] ∧ FnOk P w K mg base CX0 k f fd ps sp
section
variable {X : Cx} {b : Bool} {e : Expr} {es : List Expr} {me : SE} {mr : SR} {pos npos p : Pos}
theorem me_callD {k n : Nat} {ps : List Str} {sm : Sm} {x : Str} (d : Df X.prog X.w X.K X.mg X.base x k ps (spOf X.G sm n)) (hn : ps.length = n) (hr : Room k X.A)
    (hl : (e :: es).length = n) (ha : MR X false (e :: es) mr) (hg : Gl X x := by rfl) (hdb : (x == ("__debug__" : Str)) = false := by decide) (he : starEach (e :: es) X.env = (false, eval e X.env) :: starEach es X.env := by rfl) (hpl : (backTo pos (starEach es X.env)).any (·.1) = false := by rfl) :
    ME X b (.Call (.Name x p) (e :: es) [] pos) (sCall n sm mr) := by
  obtain ⟨f, fd, h1, h2, h3, h4⟩ := d
  exact me_call h4 hn hr h1 h2 h3 hl ha hg hdb he hpl
theorem me_nextD {k i : Nat} {ps : List Str} {x z : Str} (d : Df X.prog X.w X.K X.mg X.base x k ps spNext) (hr : Room k X.A)
    (hv : PE X (.Name z npos) (tVar i)) (he : ME X true e me) (hg : Gl X x := by rfl) (hdb : (x == ("__debug__" : Str)) = false := by decide) (hs : starEach [.Name z npos, e] X.env = (false, eval (.Name z npos) X.env) :: starEach [e] X.env := by rfl)
    (hs2 : starEach [e] X.env = (false, eval e X.env) :: starEach [] X.env := by rfl) (hpl : (backTo pos (starEach [e] X.env)).any (·.1) = false := by rfl) :
    ME X b (.Call (.Name x p) [.Name z npos, e] [] pos) (sNext i me) := by
  obtain ⟨f, fd, h1, h2, h3, h4⟩ := d
  exact me_next h4 hr h1 h2 h3 hv he hg hdb hs hs2 hpl
end
section
variable {P : Program} {w : World} {K : PySem.W.Frag} {mg : Str → Option Value} {base : Heap}
/-- the promise of _law_draw -/
def spDraw (K : PySem.W.Frag) : Sp := fun vs H Q _ => ∃ (a : Addr) (ns : List Int), vs = [.ref a] ∧ SqL K H a (ns.map V.int) ∧ ns.length ≤ 63 ∧
  ∀ (q l : Addr) (H' : Hp), H q = none → H l = none → l ≠ q → H' q = some (.lst [.ref l, .int 0, .int 0, .int 17]) → H' l = some (.lst (ns.map V.int)) → Same H H' → Q (.ref q) H'
def spLaw (K : PySem.W.Frag) : Sp := fun vs H Q _ => ∃ (a : Addr) (ns : List Int), vs = [.ref a] ∧ SqL K H a (ns.map V.int) ∧ ns.length ≤ 63 ∧ ∀ H', Q (.bl true) H'
def tDraw (K : PySem.W.Frag) : TE := fun σ H Q => ∃ (a : Addr) (ns : List Int), σ[0]? = some (some (.ref a)) ∧ SqL K H a (ns.map V.int) ∧ ns.length ≤ 63 ∧
  ∀ (q l : Addr) (H' : Hp), H q = none → H l = none → l ≠ q → H' q = some (.lst [.ref l, .int 0, .int 0, .int 17]) → H' l = some (.lst (ns.map V.int)) → Same H H' → Q (.ref q) H'
theorem pe_draw {X : Cx} {k : Nat} {x z : Str} {ps : List Str} {pos npos p : Pos} (d : Df X.prog X.w X.K X.mg X.base x k ps (spDraw X.K)) (hr : Room k X.A) (hv : PE X (.Name z npos) (tVar 0))
    (hg : Gl X x := by rfl) (hdb : (x == ("__debug__" : Str)) = false := by decide) (he : starEach [.Name z npos] X.env = (false, eval (.Name z npos) X.env) :: starEach [] X.env := by rfl) (hpl : (backTo pos (starEach [] X.env)).any (·.1) = false := by rfl) :
    PE X (.Call (.Name x p) [.Name z npos] [] pos) (tDraw X.K) := by
  obtain ⟨f, fd, h1, h2, h3, h4⟩ := d
  refine ⟨fun pins s σ H Q I h => (pe_call h4 hr hg h1 h2 h3 .nil pass0 (pa_cons hv pa_nil he) hdb he hpl).run pins s σ H Q I ?_⟩
  obtain ⟨a, ns, e1, e2, e3, q⟩ := h
  exact ⟨.ref a, e1, a, ns, rfl, e2, e3, q⟩
def env0 (n i : Nat) : En := (List.replicate n Sl.un).set i .dr
def kL : Ks := { nx := fun _ => False, rt := fun d => d = .bool true }
theorem law_ok {x qual : Str} {st : Stmt} {f : Addr} {fd : FuncData} {N : List Str} {k i : Nat} {m : SS} (F : Fun K x qual st f fd) (S : FnScope N ["script"] (defScope st)) (hN : 0 < N.length)
    (hbody : ∀ (cdv : Value) (A : Around) (outer : List Env) (s : Shared) (H : Hp) (E : XK), Room k (A.deeper (PyProof.Rows.envOfC qual (defScope st) s.heap.objs.size f cdv)) →
      PSs (cxOf CX0 P w K mg base N qual (defScope st) f cdv A outer s H E).nox (defBody st) (tSeq (tAsg (tDraw K) (gName i)) (lS ⟨K, P, w⟩ m)))
    (hm : m kL (env0 N.length i)) (mono : ∀ (a c : Ks) env, KLe a c → m a env → m c env) : FnOk P w K mg base CX0 (k + 1) f fd ["script"] (spLaw K) := by
  refine F.ok S (fun vs H Q E h => ?_) (fun cdv A outer s H vs Q E hr h => ?_)
  · obtain ⟨a, ns, rfl, _⟩ := h
    rfl
  · obtain ⟨a, ns, rfl, hS, hlen, kq⟩ := h
    refine ⟨_, hbody cdv A outer s H E hr, a, ns, ?_, hS, hlen, fun q l H' n1 n2 ne h1 h2 sm => ?_⟩
    · unfold L2.start
      rfl
    · have sF : Same H (upd H l (.lst (ns.map V.int))) := upd_grow n2
      have rf : Rf ⟨H, H, none⟩ (some q) (upd H l (.lst (ns.map V.int))) H' := by
        refine ⟨fun b o e => ?_, sF, fun b _ => ?_, fun b o e _ => sm b o e, fun b hb => ?_, fun b hb => ?_, .inl rfl, fun b hb => .inr (by cases hb; exact n1)⟩
        · by_cases hb : b = l
          · subst hb; rw [upd_same] at e; cases e; exact h2
          · rw [upd_ne hb] at e; exact sm b o e
        · cases z : H b with
          | none => exact .inr z
          | some o => exact .inl (by show H b ≠ none; rw [z]; simp)
        · cases z : H b with
          | none => exact absurd z hb
          | some o => rw [sm b o z]; simp
        · cases hb
          exact ⟨by rw [upd_ne (Ne.symm ne)]; exact n1, l, ns, 0, 0, 17, h1, upd_same, by decide, by decide, by decide, by decide⟩
      refine ⟨⟨H, H, none⟩, some q, _, env0 N.length i, ⟨rf, ?_, fun j s' o g1 g2 => ?_, fun j l' a' s1 s2 g1 g2 o1 o2 g3 g4 => ?_⟩, mono kL _ _ ⟨fun e (he : False) => he.elim, fun d (hd : d = .bool true) v dr' F' H2 rf rv => ?_, fun e (he : False) => he.elim, fun e (he : False) => he.elim⟩ hm⟩
      · unfold env0 L2.start
        simp only [List.length_set, List.length_replicate, List.length_append, List.length_map, List.length_cons, List.length_nil]
        omega
      · unfold env0 at g1
        rcases own_of_get g1 with ⟨rfl, rfl⟩ | ⟨ne', g1⟩
        · rcases st_of_get g2 with ⟨_, rfl⟩ | ⟨z, _⟩
          · exact ⟨q, rfl, rfl⟩
          · exact absurd rfl z
        · rw [(List.mem_replicate.mp (List.mem_of_getElem? g1)).2]
          trivial
      · unfold env0 at g1
        rcases own_of_get g1 with ⟨rfl, rfl⟩ | ⟨ne', g1⟩
        · cases o1
        · rw [(List.mem_replicate.mp (List.mem_of_getElem? g1)).2] at o1
          cases o1
      · subst hd
        cases rv
        exact kq H2
theorem df_mk {l : Program} {h : Heap} {x : Str} {st : Stmt} {f : Addr} {k : Nat} {ps : List Str} {sp : Sp} {od an : Option Addr} {sl : Array (Option Value)} {oc kV dc pm cd ct : Value} (X : K.In h) (G : h.Ns mainGlobals mg)
    (a : PySem.W.nsIn K mainGlobals x = some (some (.ref f))) (lk : K.lookup f = some ⟨oc, od, .func (PySem.W.fnOf x x (defArgs st) (defBody st) (defScope st) .none kV dc pm an cd ct), sl⟩) (c : PySem.W.codeIn K cd x = true) (kp : PySem.W.keepIn K (.ref f) = true)
    (hb : ∀ (kV doc pm : Value) (an : Option Addr) (cdv ct : Value) (us : List Value), us.length = ps.length → bindArgs (PySem.W.fnOf x x (defArgs st) (defBody st) (defScope st) .none kV doc pm an cdv ct) ⟨us, []⟩ = pure (ps.zip us))
    (ok : ∀ f fd, Fun K x x st f fd → FnOk l w K mg base CX0 k f fd ps sp) : Df l w K mg base x k ps sp := by
  have F := fun_mk (st := st) lk c kp
  exact ⟨f, _, PySem.W.mg_of X G a, kp, F.binds hb, ok _ _ F⟩
theorem walk {l : PySem.W.OpenLaw} {q : Program} {loose : List Str} {XP : (Str → Option Value) → Heap → Prop} {YP : World → Heap → Prop} {d : DefRec} {K : Params → PySem.W.Frag} {k : Nat} (hk : Room k callerA) (hn : l.most = some 63) (hdf : d.params.defaults = [])
    (hY : ∀ (w : World) (h : Heap), YP w h → (K w.params).In h)
    (F : ∀ (w : World) (mg : Str → Option Value) (fa : Addr) (h : Heap), (K w.params).In h → h.Ns mainGlobals mg → mg d.name = some (.ref fa) →
      ∃ fd : FuncData, (∀ (s : Shared) (u : Value), BindsTo s fd ⟨[u], []⟩ [("script", u)]) ∧ ∀ base : Heap, (K w.params).In base → base.Ns mainGlobals mg → FnOk l.prog w (K w.params) mg base CX0 k fa fd ["script"] (spLaw (K w.params))) :
    PySem.W.WalkO q loose XP YP l.row.toRowW d [] (fun f vs => PySem.call f vs) :=
  L2.walk_of (n := 63) (k := k) (x := "script") (CX := fun _ => CX0) (sp := fun w => spLaw (K w.params)) hn (by decide) hdf hk hY F (fun _ _ a ns hl _ hS => ⟨a, ns, rfl, hS, hl, fun _ => rfl⟩) fun _ _ _ _ _ z => z
end
end Mi

namespace Mi
open PySem PySem.Spec L2
/-! ### isinstance -/
inductive Ty where
  | list | tuple | str | int | bool
def Ty.nm : Ty → String
  | .list => "list"
  | .tuple => "tuple"
  | .str => "str"
  | .int => "int"
  | .bool => "bool"
def dTy : D → Option String
  | .none => some "NoneType"
  | .bool _ => some "bool"
  | .int _ => some "int"
  | .str _ => some "str"
  | .list _ => some "list"
  | .tuple _ => some "tuple"
  | _ => none
def isK (t : Ty) : D → Option Bool
  | .none => some false
  | .bool _ => some (match t with | .bool => true | .int => true | _ => false)
  | .int _ => some (match t with | .int => true | _ => false)
  | .str _ => some (match t with | .str => true | _ => false)
  | .list _ => some (match t with | .list => true | _ => false)
  | .tuple _ => some (match t with | .tuple => true | _ => false)
  | _ => none
theorem isK_kit {t : Ty} {d : D} {r : Bool} (h : isK t d = some r) : ∃ s, dTy d = some s ∧ kitB s t.nm = some r := by
  cases d <;> simp only [isK, Option.some.injEq, reduceCtorEq] at h <;> refine ⟨_, rfl, ?_⟩ <;> subst h <;> cases t <;> decide +kernel
section
variable {X : Cx} {b b' : Bool} {a c e o : Expr} {ma mc me : SE} {pos apos cpos npos : Pos}
theorem tyx_list {K : Fg} {H : Hp} {a : Addr} {vs : List V} (h : SqL K H a vs) : TyX K H (.ref a) (.type "list") := by
  rcases h with (h | ⟨o, h⟩) | ⟨o, its, n, hk, hc, _⟩
  · exact .base (.lst h)
  · exact .base (.frz h)
  · exact .kList hk hc
theorem tyx_tuple {K : Fg} {H : Hp} {a : Addr} {vs : List V} (h : SqT K H a vs) : TyX K H (.ref a) (.type "tuple") := by
  rcases h with (h | ⟨o, h⟩) | ⟨o, its, n, hk, hc, _⟩
  · exact .base (.tup h)
  · exact .fTuple h
  · exact .kTuple hk hc
theorem Vr.tyx {K : Fg} {y : Cy} {dr : Option Addr} {F H : Hp} {env : En} {σ : L2.St} {d : D} {v : V} (re : Re K y dr F env σ H) (w : Vr K b F env σ d v) {s : String} (h : dTy d = some s) : TyX K H v (.type s) := by
  cases d with
  | none => cases h; rw [w.none]; exact .base .non
  | bool i => cases h; rw [w.bool]; exact .base (.bl i)
  | int i => cases h; rw [w.int]; exact .base (.int i)
  | str i => cases h; rw [w.str.1]; exact .base (.str i)
  | list xs =>
    cases h
    obtain ⟨a, vs, rfl, h1, _⟩ := w.list re
    exact tyx_list (SqL.of h1)
  | tuple xs =>
    cases h
    obtain ⟨a, vs, rfl, h1, _⟩ := w.tuple re
    exact tyx_tuple (re_tuple re h1)
  | _ => cases h
def is1D (t : Ty) (d : D) : Option D := (isK t d).map .bool
def is2D (t t' : Ty) (d : D) : Option D := (isK t d).bind fun r => (isK t' d).map fun r' => .bool (r || r')
theorem pe_ty {t : Ty} {x : Str} (hg : Gl X x) (hm : X.mg x = none) (hv : bootBuiltins x = some (.type t.nm)) (hn : x ≠ "__name__" := by decide) (hd : (x == ("__debug__" : Str)) = false := by decide) : PE X (.Name x pos) (tC (.ty t.nm)) := pe_bltn hg hm hv rfl hn hd
theorem me_is1 {p : Pos} {t : Ty} (hg : Gl X "isinstance") (hm : X.mg "isinstance" = none) (ha : ME X true a ma) (hc : PE X c (tC (.ty t.nm)))
    (he : starEach [a, c] X.env = (false, eval a X.env) :: starEach [c] X.env := by rfl) (he2 : starEach [c] X.env = (false, eval c X.env) :: starEach [] X.env := by rfl) (hpl : (backTo pos (starEach [c] X.env)).any (·.1) = false := by rfl) : ME X b' (.Call (.Name "isinstance" p) [a, c] [] pos) (sUn (is1D t) ma) := by
  refine ⟨⟨fun pins s σ H Q I h => (pe_callB call_isi hg hm PyProof.Rows.boot_isinstance (pa_cons ha.run (pa_cons hc pa_nil he2) he) (by decide) (by decide) he hpl).run pins s σ H Q I ?_⟩, un_mono ha⟩
  obtain ⟨y, dr, F, env, re, hm⟩ := h
  refine ⟨y, dr, F, env, re, ha.mono _ _ _ (fun d hd v H' F' r1 s1 w => ?_) hm⟩
  unfold is1D at hd
  cases q : isK t d with
  | none => rw [q] at hd; exact hd.elim
  | some r =>
    rw [q] at hd
    obtain ⟨s, h1, h2⟩ := isK_kit q
    exact ⟨_, _, _, _, r, rfl, .ty _, w.tyx r1 h1, kit_ty h2, hd _ H' F' r1 s1 (.inl (.bl r))⟩
theorem me_is2 {p tpos : Pos} {t t' : Ty} {k : Nat} {c' : Expr} (hg : Gl X "isinstance") (hm : X.mg "isinstance" = none) (ha : ME X true a ma) (hc : PE X c (tC (.ty t.nm))) (hc' : PE X c' (tC (.ty t'.nm)))
    (he : starEach [a, .Tuple [c, c'] k tpos] X.env = (false, eval a X.env) :: starEach [.Tuple [c, c'] k tpos] X.env := by rfl) (he2 : starEach [.Tuple [c, c'] k tpos] X.env = (false, eval (.Tuple [c, c'] k tpos) X.env) :: starEach [] X.env := by rfl) (hpl : (backTo pos (starEach [.Tuple [c, c'] k tpos] X.env)).any (·.1) = false := by rfl)
    (he3 : starEach [c, c'] X.env = (false, eval c X.env) :: starEach [c'] X.env := by rfl) (he4 : starEach [c'] X.env = (false, eval c' X.env) :: starEach [] X.env := by rfl) : ME X b' (.Call (.Name "isinstance" p) [a, .Tuple [c, c'] k tpos] [] pos) (sUn (is2D t t') ma) := by
  refine ⟨⟨fun pins s σ H Q I h => (pe_callB call_isiT hg hm PyProof.Rows.boot_isinstance (pa_cons ha.run (pa_cons (pe_tup (pa_cons hc (pa_cons hc' pa_nil he4) he3)) pa_nil he2) he) (by decide) (by decide) he hpl).run pins s σ H Q I ?_⟩, un_mono ha⟩
  obtain ⟨y, dr, F, env, re, hm⟩ := h
  refine ⟨y, dr, F, env, re, ha.mono _ _ _ (fun d hd v H' F' r1 s1 w => ?_) hm⟩
  unfold is2D at hd
  cases q : isK t d with
  | none => rw [q] at hd; exact hd.elim
  | some r =>
    rw [q] at hd
    cases q' : isK t' d with
    | none => rw [q'] at hd; exact hd.elim
    | some r' =>
      rw [q'] at hd
      obtain ⟨s, h1, h2⟩ := isK_kit q
      obtain ⟨s', h1', h2'⟩ := isK_kit q'
      rw [h1] at h1'; cases h1'
      refine ⟨by rw [sizeLine_eq]; show 2 ≤ 16777216; decide, fun T hT => ?_⟩
      have r2 := r1.grown (o := .tup [.ty t.nm, .ty t'.nm]) hT
      refine ⟨v, T, [.ty t.nm, .ty t'.nm], .type s, [.type t.nm, .type t'.nm], r || r', rfl, upd_same, .cons (.ty _) (.cons (.ty _) .nil), w.tyx r2 h1, ?_, hd _ _ F' r2 (s1.trans (Ex.grown hT)) (.inl (.bl _))⟩
      refine kitAny_cons (kit_ty h2) (fun z => ?_) (fun z => by rw [z]; rfl)
      subst z
      refine kitAny_cons (kit_ty h2') (fun z => ?_) (fun z => by rw [z]; rfl)
      subst z
      exact kitAny_nil
end
/-! ### sorted -/
def leD' (a c : D) : Bool := PySem.W.dataLe false (fun d : D => d) a c
def srt (xs : List D) : List D := xs.mergeSort leD'
theorem srt_len (xs : List D) : (srt xs).length = xs.length := by unfold srt; rw [List.length_mergeSort]
structure SrtOk (xs : List D) : Prop where
  lay : ∀ d ∈ xs, d.canLay0 = true
  al : PySem.W.AllAlike xs
  so : PySem.W.Sortable xs
  dp : ∀ d ∈ xs, d.depth ≤ 60
def sSort (m : SE) : SL := fun env Q => m env fun d => obL (seqOf d) fun xs => SrtOk xs ∧ Q (srt xs)
theorem zip_vals : ∀ {vs : List V} {us : List Value} {ds : List D}, Vals vs us → vs.length = ds.length → PySem.W.EachIs (fun u (p : V × D) => RelV p.1 u) us (vs.zip ds)
  | _, _, _, .nil, _ => by simp only [List.zip_nil_left]; exact .nil
  | _, _, [], .cons r t, h => by simp at h
  | _, _, d :: ds, .cons r t, h => by
    simp only [List.zip_cons_cons]
    exact .cons r (zip_vals t (by simpa using h))
theorem each_vals : ∀ {us : List Value} {ps : List (V × D)}, PySem.W.EachIs (fun u (p : V × D) => RelV p.1 u) us ps → Vals (ps.map (·.1)) us
  | _, _, .nil => .nil
  | _, _, .cons r t => .cons r (each_vals t)
theorem rvs_zip {K : Fg} {F : Hp} : ∀ {ds : List D} {vs : List V}, Rvs K F ds vs → ∀ p ∈ vs.zip ds, Rv K F p.2 p.1
  | _, _, .nil, p, h => by simp at h
  | _, _, .cons r t, p, h => by
    simp only [List.zip_cons_cons, List.mem_cons] at h
    rcases h with rfl | h
    · exact r
    · exact rvs_zip t p h
theorem zip_rvs {K : Fg} {F : Hp} : ∀ {ps : List (V × D)}, (∀ p ∈ ps, Rv K F p.2 p.1) → Rvs K F (ps.map (·.2)) (ps.map (·.1))
  | [], _ => .nil
  | p :: ps, h => .cons (h p (by simp)) (zip_rvs fun q hq => h q (by simp [hq]))
section
variable {X : Cx} {b b' : Bool} {a c e o : Expr} {ma mc me : SE} {pos apos cpos npos : Pos}
def rSortD (X : Cx) : List V → Hp → VK → Prop := fun xs H Q => ∃ (a : Addr) (vs : List V) (ds : List D), xs = [.ref a] ∧ SqL X.G H a vs ∧ vs.length = ds.length ∧ (∀ p ∈ vs.zip ds, Dp X.G H p.1 p.2) ∧ PySem.W.AllAlike ds ∧ PySem.W.Sortable ds ∧ (∀ d ∈ ds, d.depth ≤ 60) ∧
  ∀ p, H p = none → Q (.ref p) (upd H p (.lst (((vs.zip ds).mergeSort fun p q => leD' p.2 q.2).map (·.1))))
theorem map_snd_zip : ∀ {vs : List V} {ds : List D}, vs.length = ds.length → (vs.zip ds).map (·.2) = ds
  | [], [], _ => rfl
  | v :: vs, d :: ds, h => by
    simp only [List.zip_cons_cons, List.map_cons, map_snd_zip (by simpa using h : vs.length = ds.length)]
theorem cr_sortD (hu : X.A.units + 65 < cLine) : CallR X (.builtin "sorted") (rSortD X) := by
  intro pins s σ H xs us Q I r h
  obtain ⟨a, vs, ds, rfl, hs, hl, hd, hal, hso, hdp, q⟩ := h
  obtain ⟨its, rv, pl, hz⟩ := I.list hs
  rw [Vals.ref1 r]
  have ez := zip_vals rv hl
  have er : PySem.W.EachIs (fun u (p : V × D) => ∃ as, PySem.Reads s.heap u p.2 as) its (vs.zip ds) := by
    have : ∀ {us : List Value} {ps : List (V × D)}, PySem.W.EachIs (fun u (p : V × D) => RelV p.1 u) us ps → (∀ p ∈ ps, Dp X.G H p.1 p.2) → PySem.W.EachIs (fun u (p : V × D) => ∃ as, PySem.Reads s.heap u p.2 as) us ps := by
      intro us ps e
      induction e with
      | nil => intro _; exact .nil
      | cons r t ih => intro h; exact .cons (Dp.reads I _ _ _ (h _ (by simp)) r) (ih fun p hp => h p (by simp [hp]))
    exact this ez hd
  have e2 := map_snd_zip hl
  have hlen : (vs.zip ds).length = vs.length := by rw [List.length_zip, ← hl]; simp
  refine PySem.W.sorted_data (β := V × D) (enc := fun p => p.2) (R := fun u p => RelV p.1 u) pl.isList ez er (by rw [e2]; exact hal) (by rw [e2]; exact hso) (by rw [hlen]; exact hz) (fun p hp => ?_) fun out ho eo => ?_
  · have := hdp p.2 (by rw [← e2]; exact List.mem_map_of_mem hp)
    omega
  · obtain ⟨ep, he'⟩ := PyProof.Rows.sortedAll_at s.heap its out.toArray
    have ev := each_vals eo
    refine ⟨.ref _, upd H (s.heap.objs.size + 1) (.lst (((vs.zip ds).mergeSort fun p q => leD' p.2 q.2).map (·.1))), I.laid (t' := s.toks) (fun _ _ => PyProof.Rows.sortedAll_old) (Nat.le_succ _) ⟨?_, out, ep, ev, he'⟩, rfl, q _ (I.hok.fresh (Nat.le_succ _))⟩
    rw [List.length_map, List.length_mergeSort, hlen]
    exact hz
open PyProof.Rows in
theorem col_tup {prog : Program} {w : World} {A : Around} {E : Value → Shared → Prop} {s : Shared} {l : Addr} {vs : List Value} {Q : List Value → Shared → Prop} (hl : s.heap.IsTuple l vs.toArray) (hz : vs.length ≤ sizeLine)
    (h : ∀ hp, (∀ b o, s.heap.get? b = some o → hp.get? b = some o) → s.heap.objs.size ≤ hp.objs.size → Q vs { s with heap := hp }) : wpAny (model prog w) A (collect (.ref l)) Q E s := by
  obtain ⟨o, ho, hc, n, hd⟩ := id hl
  unfold collect
  apply wpAny_bind
  apply wpAny_runValue
  apply codeAny_builtin entry_proto_collect'
  show wpAny _ _ (do
    again (.builtin "list.__iadd__" ⟨[← newList [],
      .ref l], []⟩)) _ _ s
  apply wpAny_bind
  refine wpAny_newList ?_ (Nat.zero_le _)
  apply wpAny_pure
  refine ⟨Code.quiet_builtin _ (by decide +kernel), ?_⟩
  apply codeAny_builtin entry_list_iadd'
  have h1 : (s.heap.push (seqObj "list" #[] 0)).get? l = some o := Heap.get?_push_of_some _ ho
  have h2 : (s.heap.push (seqObj "list" #[] 0)).get? s.heap.objs.size
      = some (seqObj "list" #[] 0) := Heap.get?_push_size _ rfl
  let s2 : Shared := { s with heap := (s.heap.push (seqObj "list" #[] 0)).update s.heap.objs.size (Obj.mapSeq (· ++ vs.toArray)) }
  have h3 : s2.heap.get? s.heap.objs.size = _ := get?_update_seq h2 (· ++ vs.toArray)
  have e2 : (#[] ++ vs.toArray : Array Value).toList = vs := by simp
  have hQ : Q (#[] ++ vs.toArray : Array Value).toList s2 := by
    rw [e2]
    refine h _ (fun b o e => ?_) ?_
    · have hb := Heap.lt_size e
      rw [Heap.get?_update_ne _ _ _ _ (Nat.ne_of_lt hb)]
      exact Heap.get?_push_of_some _ e
    · rw [Heap.size_update, size_push']; omega
  refine wpAny_mono (wpAny_extend_seq (A := A) (s := { s with heap := s.heap.push (seqObj "list" #[] 0) }) (R := fun r t => r = .ok (.ret (.ref s.heap.objs.size)) ∧ t = s2) s.heap.objs.size l (.ref s.heap.objs.size) 0 (.inr rfl) h2 h1 hc hd ⟨rfl, rfl⟩ (by simpa using hz)) (fun fin t ht => ?_) (fun e t ht => ?_)
  · cases fin with
    | done f =>
      obtain ⟨e1, rfl⟩ := ht
      cases e1
      exact wpAny_bind (wpAny_load h3 (wpAny_pure hQ))
    | again c =>
      refine ⟨ht.1, codeAny_mono ht.2 fun r t hr => ?_⟩
      obtain ⟨rfl, rfl⟩ := hr
      exact wpAny_bind (wpAny_load h3 (wpAny_pure hQ))
  · obtain ⟨e1, _⟩ := ht
    cases e1
def rSortDT (X : Cx) : List V → Hp → VK → Prop := fun xs H Q => ∃ (a : Addr) (vs : List V) (ds : List D), xs = [.ref a] ∧ SqT X.G H a vs ∧ vs.length = ds.length ∧ (∀ p ∈ vs.zip ds, Dp X.G H p.1 p.2) ∧ PySem.W.AllAlike ds ∧ PySem.W.Sortable ds ∧ (∀ d ∈ ds, d.depth ≤ 60) ∧
  ∀ p, H p = none → Q (.ref p) (upd H p (.lst (((vs.zip ds).mergeSort fun p q => leD' p.2 q.2).map (·.1))))
open PyProof.Rows in
theorem cr_sortDT (hu : X.A.units + 65 < cLine) : CallR X (.builtin "sorted") (rSortDT X) := by
  intro pins s σ H xs us Q I r h
  obtain ⟨a, vs, ds, rfl, hs, hl, hd, hal, hso, hdp, q⟩ := h
  obtain ⟨its, rv, pl, hz⟩ := I.tuple hs
  rw [Vals.ref1 r]
  have ez := zip_vals rv hl
  have e2 := map_snd_zip hl
  have hlen : (vs.zip ds).length = vs.length := by rw [List.length_zip, ← hl]; simp
  have hits : its.length ≤ sizeLine := by rw [← rv.length]; exact hz
  apply Calls.call_function_entry kind_sorted plain_sorted
  · exact entry_sorted
  · exact args_sorted1 _
  unfold Builtin.«sorted»
  apply wpAny_bind (m := checkCount "sorted" 1 1 _)
  refine wpAny_pure (wpAny_bind (col_tup pl hits fun hp k1 z1 => ?_))
  refine wpAny_bind (wpAny_newList ?_ hits)
  have hoL : (hp.push (seqObj "list" its.toArray 0)).get? hp.objs.size = some (seqObj "list" its.toArray 0) := Heap.get?_push_size _ rfl
  have k2 : ∀ b o, s.heap.get? b = some o → b ≠ hp.objs.size ∧ b < (hp.push (seqObj "list" its.toArray 0)).objs.size ∧ (hp.push (seqObj "list" its.toArray 0)).get? b = some o := fun b o e => by
    have e1 := k1 b o e
    have e3 := Heap.lt_size e1
    exact ⟨Nat.ne_of_lt e3, by rw [size_push']; exact Nat.lt_succ_of_lt e3, Heap.get?_push_of_some _ e1⟩
  have er : PySem.W.EachIs (fun u (p : V × D) => ∃ as, PySem.Reads (PySem.W.sortingHeap (hp.push (seqObj "list" its.toArray 0)) hp.objs.size its) u p.2 as) its (vs.zip ds) := by
    have : ∀ {us : List Value} {ps : List (V × D)}, PySem.W.EachIs (fun u (p : V × D) => RelV p.1 u) us ps → (∀ p ∈ ps, Dp X.G H p.1 p.2) → PySem.W.EachIs (fun u (p : V × D) => ∃ as, PySem.Reads (PySem.W.sortingHeap (hp.push (seqObj "list" its.toArray 0)) hp.objs.size its) u p.2 as) us ps := by
      intro us ps e
      induction e with
      | nil => intro _; exact .nil
      | cons r t ih =>
        intro h
        obtain ⟨as, ra⟩ := Dp.reads I _ _ _ (h _ (by simp)) r
        exact .cons ⟨as, PyProof.Rows.Reads.keeps (fun b o e => PySem.W.sortingHeap_old (k2 b o e).1 (k2 b o e).2.2) ra⟩ (ih fun p hp => h p (by simp [hp]))
    exact this ez hd
  have hlk : (vs.zip ds).length ≤ sizeLine := by rw [hlen]; exact hz
  have hso2 := PySem.W.SortsAt.data (A := X.A.in1.in1) (prog := X.prog) (w := X.w) (s := { s with heap := PySem.W.sortingHeap (hp.push (seqObj "list" its.toArray 0)) hp.objs.size its }) (PySem.W.each_map (fun p : V × D => p.2) er) (by rw [e2]; exact hal) (by rw [e2]; exact hso) (PySem.W.bound_map fun p hp => by
    have h1 := hdp p.2 (by rw [← e2]; exact List.mem_map_of_mem hp)
    show X.A.units + 1 + 1 + p.2.depth < cLine
    omega)
  apply wpAny_bind
  apply wpAny_holding
  refine wpAny_call_entry slot_list_sort ⟨_, hoL, rfl⟩ entry_list_sort ?_ (args_list_sort _)
  refine PySem.W.list_sort_vals (κ := PySem.W.dataKind (PySem.W.sortingHeap (hp.push (seqObj "list" its.toArray 0)) hp.objs.size its) ((vs.zip ds).map fun p => p.2)) hoL hso2 hits ⟨_, rfl, wpAny_pure ⟨_, rfl, ?_⟩⟩
  obtain ⟨c, hc⟩ := sortedHeap_at (vs := its) (out := (PySem.W.sortVals (PySem.W.dataKind (PySem.W.sortingHeap (hp.push (seqObj "list" its.toArray 0)) hp.objs.size its) ((vs.zip ds).map fun p => p.2)) false its its).toArray) hoL
  have ev := each_vals (PySem.W.sortVals_data (enc := fun p : V × D => p.2) false ez er (by rw [e2]; exact hal))
  have hf : H hp.objs.size = none := I.hok.fresh z1
  refine ⟨.ref _, upd H hp.objs.size (.lst (((vs.zip ds).mergeSort fun p q => leD' p.2 q.2).map (·.1))), I.laid (t' := s.toks) (fun b o e => ?_) z1 ⟨?_, _, c, ev, hc⟩, rfl, q _ hf⟩
  · exact (sortedHeap_old (k2 b o e).1 (k2 b o e).2.1).trans (k2 b o e).2.2
  · rw [List.length_map, List.length_mergeSort, hlen]
    exact hz
theorem mf_sorted {p : Pos} (hu : X.A.units + 65 < cLine) (hg : Gl X "sorted") (hm : X.mg "sorted" = none) (ha : ME X true a ma) (he : starEach [a] X.env = (false, eval a X.env) :: starEach [] X.env := by rfl) (hpl : (backTo pos (starEach [] X.env)).any (·.1) = false := by rfl) : MF X (.Call (.Name "sorted" p) [a] [] pos) (sSort ma) := by
  refine ⟨⟨fun pins s σ H Q I hq => (pe_callB ((cr_sortD hu).or (cr_sortDT hu)) hg hm (by decide +kernel) (pa_cons ha.run pa_nil he) (by decide) (by decide) he hpl).run pins s σ H Q I ?_⟩, fun env P Q k hp => ha.mono _ _ _ (fun d h1 => obL_mono (fun xs h => ⟨h.1, k _ h.2⟩) h1) hp⟩
  obtain ⟨y, dr, F, env, re, hm⟩ := hq
  refine ⟨y, dr, F, env, re, ha.mono _ _ _ (fun d1 h1 v1 H1 F1 r1 s1 w1 => ?_) hm⟩
  cases q : seqOf d1 with
  | none => rw [q] at h1; exact h1.elim
  | some xs =>
    rw [q] at h1
    obtain ⟨ok, h1⟩ := h1
    have fin : ∀ {vs : List V} {p : Addr}, Rvs X.G F1 xs vs → xs.length ≤ sizeLine → H1 p = none → Rvs X.G F1 (srt xs) (((vs.zip xs).mergeSort fun p q => leD' p.2 q.2).map (·.1)) := by
      intro vs p rv z1 hp
      have := zip_rvs (K := X.G) (F := F1) (ps := (vs.zip xs).mergeSort fun p q => leD' p.2 q.2) fun p hp => rvs_zip rv p (List.mem_mergeSort.mp hp)
      rw [List.map_mergeSort (s := leD') (fun _ _ _ _ => rfl), map_snd_zip rv.length.symm] at this
      exact this
    cases d1 with
    | list zs =>
      cases q
      obtain ⟨a1, vs, rfl, e1, z1, rv⟩ := w1.list r1
      refine .inl ⟨a1, vs, xs, rfl, SqL.of e1, rv.length.symm, fun p hp => ?_, ok.al, ok.so, ok.dp, fun p hp => ?_⟩
      · have hm : p.2 ∈ xs := (List.of_mem_zip hp).2
        exact dp_mono r1.rf.sub ((rvs_zip rv p hp).dp (ok.lay _ hm))
      · exact new_lst r1 s1 hp (xs := srt xs) (fin rv z1 hp) (by rw [srt_len]; exact z1) h1
    | tuple zs =>
      cases q
      obtain ⟨a1, vs, rfl, e1, z1, rv⟩ := w1.tuple r1
      refine .inr ⟨a1, vs, xs, rfl, re_tuple r1 e1, rv.length.symm, fun p hp => ?_, ok.al, ok.so, ok.dp, fun p hp => ?_⟩
      · have hm : p.2 ∈ xs := (List.of_mem_zip hp).2
        exact dp_mono r1.rf.sub ((rvs_zip rv p hp).dp (ok.lay _ hm))
      · exact new_lst r1 s1 hp (xs := srt xs) (fin rv z1 hp) (by rw [srt_len]; exact z1) h1
    | _ => cases q
end
end Mi

namespace Mi
open PySem PySem.Spec L2
/-! ### a, b, .. = x, [], ..: several at once, new lists among them -/
abbrev SX := En → (List Sl → Prop) → Prop
/-- an item: a value, or a new list of nobody's -/
def XOk (K : Fg) (y : Cy) (dr : Option Addr) (F H : Hp) (env : En) (σ : L2.St) : Sl → V → Prop
  | .v d, v => Rv K F d v
  | .l xs, v => ∃ p vs, v = .ref p ∧ H p = some (.lst vs) ∧ Free y dr F env σ p ∧ Rvs K F xs vs ∧ xs.length ≤ sizeLine
  | .k kvs, v => ∃ p kws, v = .ref p ∧ H p = some (.dK kws) ∧ Free y dr F env σ p ∧ Rks K F (kdD kvs) kws
  | _, _ => False
inductive XAll (K : Fg) (y : Cy) (dr : Option Addr) (F H : Hp) (env : En) (σ : L2.St) : List Sl → List V → Prop
  | nil : XAll K y dr F H env σ [] []
  | cons {s : Sl} {v : V} {ss : List Sl} {vs : List V} : XOk K y dr F H env σ s v → (s.own = true → ∀ s' v', (s', v') ∈ ss.zip vs → s'.own = true → v' ≠ v) → XAll K y dr F H env σ ss vs → XAll K y dr F H env σ (s :: ss) (v :: vs)
def lX (K : Fg) (m : SX) : TA := fun σ H Q => ∃ y dr F env, Re K y dr F env σ H ∧ m env fun its => ∀ vs H' F', Re K y dr F' env σ H' → Ex dr F H F' H' → XAll K y dr F' H' env σ its vs → Q vs H'
structure MX (X : Cx) (es : List Expr) (m : SX) : Prop where
  run : PA X es (lX X.G m)
  mono : ∀ env (P Q : List Sl → Prop), (∀ d, P d → Q d) → m env P → m env Q
  len : ∀ env (P : List Sl → Prop), m env P → m env fun ds => ds.length = es.length ∧ P ds
def xNil : SX := fun _ Q => Q []
def xV (m : SE) (r : SX) : SX := fun env Q => m env fun d => r env fun its => Q (.v d :: its)
def xL (m : SL) (r : SX) : SX := fun env Q => m env fun xs => r env fun its => Q (.l xs :: its)
section
variable {X : Cx} {b b' : Bool} {a c e o : Expr} {es : List Expr} {ma mc me : SE} {ml : SL} {mr : SX} {pos apos cpos npos : Pos}
theorem mx_nil : MX X [] xNil := by
  refine ⟨⟨fun pos pins s σ H Q I h => pa_nil.run pos pins s σ H Q I ?_⟩, fun env P Q k h => k _ h, fun env P h => ⟨rfl, h⟩⟩
  obtain ⟨y, dr, F, env, re, hm⟩ := h
  exact hm [] H F re Ex.refl .nil
theorem mx_v (ha : ME X false e me) (hr : MX X es mr) (hs : starEach (e :: es) X.env = (false, eval e X.env) :: starEach es X.env := by rfl) : MX X (e :: es) (xV me mr) := by
  refine ⟨⟨fun pos pins s σ H Q I h => (pa_cons ha.run hr.run hs).run pos pins s σ H Q I ?_⟩, fun env P Q k h => ha.mono _ _ _ (fun d h1 => hr.mono _ _ _ (fun ds h2 => k _ h2) h1) h,
    fun env P h => ha.mono _ _ _ (fun d h1 => hr.mono _ _ _ (fun ds h2 => ⟨congrArg (· + 1) h2.1, h2.2⟩) (hr.len _ _ h1)) h⟩
  obtain ⟨y, dr, F, env, re, hm⟩ := h
  refine ⟨y, dr, F, env, re, ha.mono _ _ _ (fun d hd v H1 F1 r1 s1 w1 => ?_) hm⟩
  exact ⟨y, dr, F1, env, r1, hr.mono _ _ _ (fun ds hds vs H2 F2 r2 s2 w2 => hds (v :: vs) H2 F2 r2 (s1.trans s2) (.cons (w1.rv.mono s2.f) (fun e => nomatch e) w2)) hd⟩
theorem xall_own {K : Fg} {y : Cy} {dr : Option Addr} {F H : Hp} {env : En} {σ : L2.St} : ∀ {ss : List Sl} {vs : List V}, XAll K y dr F H env σ ss vs → ∀ s' v', (s', v') ∈ ss.zip vs → s'.own = true → ∃ p, v' = .ref p ∧ Free y dr F env σ p
  | _, _, .nil, s', v', h, _ => by simp at h
  | _, _, .cons (s := s) (v := v) a q t, s', v', h, o => by
    simp only [List.zip_cons_cons, List.mem_cons, Prod.mk.injEq] at h
    rcases h with ⟨rfl, rfl⟩ | h
    · cases s' with
      | l xs => obtain ⟨p, ws, h1, h2, h3, _⟩ := a; exact ⟨p, h1, h3⟩
      | k kvs => obtain ⟨p, ws, h1, h2, h3, _⟩ := a; exact ⟨p, h1, h3⟩
      | _ => cases a <;> cases o
    · exact xall_own t s' v' h o
theorem xall_y {K : Fg} {y y' : Cy} {dr : Option Addr} {F H : Hp} {env : En} {σ : L2.St} (h : ∀ p, F p = none → y'.H0 p = none → y.H0 p = none) : ∀ {ss : List Sl} {vs : List V}, XAll K y' dr F H env σ ss vs → XAll K y dr F H env σ ss vs
  | _, _, .nil => .nil
  | _, _, .cons (s := s) (v := v) a q t => .cons (by
      cases s with
      | v d => exact a
      | l xs => obtain ⟨p, ws, h1, h2, h3, h4⟩ := a; exact ⟨p, ws, h1, h2, ⟨h3.nF, h p h3.nF h3.nH, h3.nd, h3.no⟩, h4⟩
      | k xs => obtain ⟨p, ws, h1, h2, h3, h4⟩ := a; exact ⟨p, ws, h1, h2, ⟨h3.nF, h p h3.nF h3.nH, h3.nd, h3.no⟩, h4⟩
      | _ => exact a) q (xall_y h t)
/-- a state in which all that stands now counts as the caller's, but for the own objects -/
theorem Re.keepAll {K : Fg} {y : Cy} {dr : Option Addr} {F H : Hp} {env : En} {σ : L2.St} (re : Re K y dr F env σ H) :
    ∃ y', Re K y' dr F env σ H ∧ (∀ p, (∀ (i : Nat) (s : Sl), env[i]? = some s → s.own = true → σ[i]? ≠ some (some (.ref p))) → H p ≠ none → y'.H0 p ≠ none) ∧
      ∀ (F' H' : Hp), Re K y' dr F' env σ H' → Same F F' → Re K y dr F' env σ H' ∧ (∀ p, F p = none → (∀ (i : Nat) (s : Sl), env[i]? = some s → s.own = true → σ[i]? ≠ some (some (.ref p))) → H p ≠ none → F' p = none) ∧ ∀ p, F' p = none → y'.H0 p = none → y.H0 p = none := by
  obtain ⟨y', rin, out⟩ := re.blkIn []
  have rin : Re K y' dr F env σ H := rin
  classical
  refine ⟨⟨F, fun a => if (∃ (i : Nat) (s : Sl), env[i]? = some s ∧ s.own = true ∧ σ[i]? = some (some (.ref a))) then none else H a, dr⟩, ⟨?_, re.len, ?_, re.sep⟩, ?_, ?_⟩
  · refine ⟨re.rf.sub, Same.refl _, fun a h => .inl h, fun a o h _ => ?_, fun a h => ?_, re.rf.drw, .inr rfl, fun a h => .inl h⟩
    · simp only at h
      split at h
      · cases h
      · exact h
    · simp only at h
      split at h
      · exact absurd rfl h
      · exact h
  · intro i s o h1 h2
    refine (re.slot i s o h1 h2).keep (Same.refl _) fun a ha w => ?_
    obtain ⟨c, e1, e2, e3, e4, e5⟩ := (re.slot i s o h1 h2).there w
    rw [ha] at e1; cases e1
    exact ⟨rfl, e3, by simp only; rw [if_pos ⟨i, s, h1, w, by rw [h2, ha]⟩]⟩
  · intro p hp hH
    simp only
    rw [if_neg (fun ⟨i, s, h1, h2, h3⟩ => hp i s h1 h2 h3)]
    exact hH
  · intro F' H' r' sF
    have own : ∀ a, (∃ (i : Nat) (s : Sl), env[i]? = some s ∧ s.own = true ∧ σ[i]? = some (some (.ref a))) → y.H0 a = none := fun a ⟨i, s, h1, h2, h3⟩ => by
      obtain ⟨c, e1, _, _, e4, _⟩ := (re.slot i s _ h1 h3).there h2
      cases e1; exact e4
    refine ⟨⟨⟨r'.rf.sub, re.rf.sup.trans sF, fun a h => ?_, fun a o h n => ?_, fun a h => ?_, r'.rf.drw, re.rf.drs, re.rf.drn⟩, r'.len, fun i s o h1 h2 => ?_, r'.sep⟩, fun p hF hn hH => ?_, fun p hF hz => ?_⟩
    · rcases r'.rf.new a h with z | z
      · exact re.rf.new a z
      · simp only at z
        split at z
        · rename_i q
          exact .inr (own a q)
        · exact .inr (by
            cases q : y.H0 a with
            | none => rfl
            | some o => exact absurd z (re.rf.dom a (by rw [q]; simp)))
    · have hH := re.rf.gr a o h n
      refine r'.rf.gr a o ?_ ?_
      · simp only
        rw [if_neg (fun q => by rw [own a q] at h; cases h)]
        exact hH
      · intro e
        have e : some a = dr := e
        rcases re.rf.drs with z | z
        · rcases re.rf.drn a e.symm with z' | z'
          · rw [z] at z'; cases z'
          · rw [h] at z'; cases z'
        · exact n (by rw [e]; exact z)
    · refine r'.rf.dom a ?_
      simp only
      rw [if_neg (fun q => h (own a q))]
      exact re.rf.dom a h
    · refine (r'.slot i s o h1 h2).keep (Same.refl _) fun a ha w => ?_
      obtain ⟨c, e1, e2, e3, e4, e5⟩ := (r'.slot i s o h1 h2).there w
      rw [ha] at e1; cases e1
      exact ⟨rfl, e3, own a ⟨i, s, h1, w, by rw [h2, ha]⟩⟩
    · cases q : F' p with
      | none => rfl
      | some o =>
        rcases r'.rf.new p (by rw [q]; simp) with z | z
        · exact absurd hF z
        · simp only at z
          rw [if_neg (fun ⟨i, s, h1, h2, h3⟩ => hn i s h1 h2 h3)] at z
          exact absurd z hH
    · simp only at hz
      split at hz
      · rename_i q
        exact own p q
      · cases q : y.H0 p with
        | none => rfl
        | some o => exact absurd hz (re.rf.dom p (by rw [q]; simp))
theorem mx_l (ha : MF X e ml) (hr : MX X es mr) (hs : starEach (e :: es) X.env = (false, eval e X.env) :: starEach es X.env := by rfl) : MX X (e :: es) (xL ml mr) := by
  refine ⟨⟨fun pos pins s σ H Q I h => (pa_cons ha.run hr.run hs).run pos pins s σ H Q I ?_⟩, fun env P Q k h => ha.mono _ _ _ (fun d h1 => hr.mono _ _ _ (fun ds h2 => k _ h2) h1) h,
    fun env P h => ha.mono _ _ _ (fun d h1 => hr.mono _ _ _ (fun ds h2 => ⟨congrArg (· + 1) h2.1, h2.2⟩) (hr.len _ _ h1)) h⟩
  obtain ⟨y, dr, F, env, re, hm⟩ := h
  refine ⟨y, dr, F, env, re, ha.mono _ _ _ (fun xs hd p vs H1 F1 r1 s1 hp fr rv hz => ?_) hm⟩
  obtain ⟨y', ri, hin, out⟩ := r1.keepAll
  refine ⟨y', dr, F1, env, ri, hr.mono _ _ _ (fun its hits ws H2 F2 r2 s2 w2 => ?_) hd⟩
  obtain ⟨o1, o2, o3⟩ := out F2 H2 r2 s2.f
  have hp2 : H2 p = some (.lst vs) := s2.k p _ hp fr.nd
  refine hits (.ref p :: ws) H2 F2 o1 (s1.trans s2) (.cons ⟨p, vs, rfl, hp2, ⟨o2 p fr.nF fr.no (by rw [hp]; simp), fr.nH, fr.nd, fr.no⟩, rv.mono s2.f, hz⟩ (fun _ s' v' hm ho e => ?_) (xall_y o3 w2))
  obtain ⟨q, h1, h2⟩ := xall_own w2 s' v' hm ho
  rw [e] at h1; cases h1
  exact hin p fr.no (by rw [hp]; simp) h2.nH
/-- the row of items into the slots -/
def putX (env : En) : List Nat → List Sl → En
  | i :: is, s :: ss => putX (env.set i s) is ss
  | _, _ => env
def putV' (σ : L2.St) : List Nat → List V → L2.St
  | i :: is, v :: vs => putV' (σ.set i (some v)) is vs
  | _, _ => σ
theorem xall_put {K : Fg} {y : Cy} {dr : Option Addr} {F H : Hp} : ∀ {is : List Nat} {its : List Sl} {vs : List V} {env : En} {σ : L2.St}, Re K y dr F env σ H → XAll K y dr F H env σ its vs → is.length = its.length → Re K y dr F (putX env is its) (putV' σ is vs) H
  | [], [], [], _, _, re, _, _ => re
  | i :: is, s :: ss, v :: vs, env, σ, re, .cons a q t, hl => by
    have hq : is.length = ss.length := by simpa using hl
    cases s with
    | v d =>
      refine xall_put (is := is) (re.putV (i := i) a) (xall_env t fun s' v' _ _ p _ fr => ?_) hq
      refine ⟨fr.nF, fr.nH, fr.nd, fun j s1 h1 h2 h3 => ?_⟩
      rcases own_of_get h1 with ⟨rfl, rfl⟩ | ⟨ne, h1⟩
      · cases h2
      · rcases st_of_get h3 with ⟨e, _⟩ | ⟨_, h3⟩
        · exact ne e
        · exact fr.no j s1 h1 h2 h3
    | l xs =>
      obtain ⟨p, ws, rfl, h2, fr, rv, hz⟩ := a
      refine xall_put (is := is) (re.putL (i := i) h2 fr rv hz) (xall_env t fun s' v' hm ho p' hp' fr' => ?_) hq
      refine ⟨fr'.nF, fr'.nH, fr'.nd, fun j s1 h1 h2' h3 => ?_⟩
      rcases own_of_get h1 with ⟨rfl, rfl⟩ | ⟨ne, h1⟩
      · rcases st_of_get h3 with ⟨_, e⟩ | ⟨ne, _⟩
        · cases e
          exact q rfl s' v' hm ho hp'
        · exact ne rfl
      · rcases st_of_get h3 with ⟨e, _⟩ | ⟨_, h3⟩
        · exact ne e
        · exact fr'.no j s1 h1 h2' h3
    | k kvs =>
      obtain ⟨p, ws, rfl, h2, fr, rv⟩ := a
      have hput : Re K y dr F (env.set i (.k kvs)) (σ.set i (some (.ref p))) H := re.put ⟨p, ws, rfl, h2, rv, fr.nF, fr.nH, fr.nd⟩ fun _ a e j s' _ h1 h2 h3 => by cases e; exact fr.no j s' h1 h2 h3
      refine xall_put (is := is) hput (xall_env t fun s' v' hm ho p' hp' fr' => ?_) hq
      refine ⟨fr'.nF, fr'.nH, fr'.nd, fun j s1 h1 h2' h3 => ?_⟩
      rcases own_of_get h1 with ⟨rfl, rfl⟩ | ⟨ne, h1⟩
      · rcases st_of_get h3 with ⟨_, e⟩ | ⟨ne, _⟩
        · cases e
          exact q rfl s' v' hm ho hp'
        · exact ne rfl
      · rcases st_of_get h3 with ⟨e, _⟩ | ⟨_, h3⟩
        · exact ne e
        · exact fr'.no j s1 h1 h2' h3
    | _ => exact a.elim
where xall_env {K : Fg} {y : Cy} {dr : Option Addr} {F H : Hp} {env env' : En} {σ σ' : L2.St} : ∀ {ss : List Sl} {vs : List V}, XAll K y dr F H env σ ss vs → (∀ s' v', (s', v') ∈ ss.zip vs → s'.own = true → ∀ p, v' = .ref p → Free y dr F env σ p → Free y dr F env' σ' p) → XAll K y dr F H env' σ' ss vs
  | _, _, .nil, _ => .nil
  | _, _, .cons (s := s) (v := v) a q t, h => .cons (by
      cases s with
      | v d => exact a
      | l xs => obtain ⟨p, ws, h1, h2, h3, h4⟩ := a; exact ⟨p, ws, h1, h2, h (.l xs) v (by simp) rfl p h1 h3, h4⟩
      | k xs => obtain ⟨p, ws, h1, h2, h3, h4⟩ := a; exact ⟨p, ws, h1, h2, h (.k xs) v (by simp) rfl p h1 h3, h4⟩
      | _ => exact a) q (xall_env t fun s' v' hm => h s' v' (by simp [hm]))
theorem xall_len {K : Fg} {y : Cy} {dr : Option Addr} {F H : Hp} {env : En} {σ : L2.St} : ∀ {ss : List Sl} {vs : List V}, XAll K y dr F H env σ ss vs → ss.length = vs.length
  | _, _, .nil => rfl
  | _, _, .cons _ _ t => congrArg (· + 1) (xall_len t)
def sParX (is : List Nat) (m : SX) : SS := fun K env => m env fun its => K.nx (putX env is its)
theorem sParX_mono {is : List Nat} (hm : MX X es mr) (a c : Ks) (env : En) (k : KLe a c) (h : sParX is mr a env) : sParX is mr c env := hm.mono _ _ _ (fun its h => k.nx _ h) h
theorem ms_parX {i j : Nat} {x z : Str} {px py pt : Pos} {kt k2 pt2} (hc : X.calm = true) (hN : X.N.Nodup) (hi : X.N[i]? = some x) (hj : X.N[j]? = some z) (hij : i ≠ j)
    (hx : X.env.scope.names.lookup x = some .local) (hy : X.env.scope.names.lookup z = some .local) (ha : MX X [a, c] mr)
    (hw : swappedStores [.Tuple [.Name x px, .Name z py] kt pt] (.Tuple [a, c] k2 pt2) X.env = pure (some [x, z]))
    (hs : swapsWithSole [.Tuple [.Name x px, .Name z py] kt pt] (.Tuple [a, c] k2 pt2) pos.line X.env = pure false := by rfl) :
    MS X (.Assign [.Tuple [.Name x px, .Name z py] kt pt] (.Tuple [a, c] k2 pt2) pos) (sParX [i, j] mr) := by
  refine ⟨⟨fun pins s σ H E I h => (ps_par hc hN hi hj hij hx hy ha.run hw hs).run pins s σ H E I ?_⟩, sParX_mono ha⟩
  obtain ⟨y, dr, F, env, re, hm⟩ := h
  refine ⟨y, dr, F, env, re, ha.mono _ _ _ (fun its hd vs H' F' r1 s1 w => ?_) (ha.len _ _ hm)⟩
  have h1 := xall_len w
  have h2 := xall_put r1 w (is := [i, j]) hd.1.symm
  have hl : vs.length = 2 := by rw [← h1, hd.1]; rfl
  match vs, hl with
  | [v1, v2], _ => exact ⟨v1, v2, rfl, hd.2 dr F' _ H' h2 s1.f⟩
theorem ms_parX3 {i j l : Nat} {x z w : Str} {b : Expr} {px py pz pt : Pos} {kt k2 pt2} (hc : X.calm = true) (hN : X.N.Nodup) (hi : X.N[i]? = some x) (hj : X.N[j]? = some z) (hl : X.N[l]? = some w) (hij : i ≠ j) (hil : i ≠ l) (hjl : j ≠ l)
    (hx : X.env.scope.names.lookup x = some .local) (hy : X.env.scope.names.lookup z = some .local) (hz : X.env.scope.names.lookup w = some .local) (ha : MX X [a, b, c] mr)
    (hw : swappedStores [.Tuple [.Name x px, .Name z py, .Name w pz] kt pt] (.Tuple [a, b, c] k2 pt2) X.env = pure (some [x, z, w]))
    (hs : swapsWithSole [.Tuple [.Name x px, .Name z py, .Name w pz] kt pt] (.Tuple [a, b, c] k2 pt2) pos.line X.env = pure false := by rfl) :
    MS X (.Assign [.Tuple [.Name x px, .Name z py, .Name w pz] kt pt] (.Tuple [a, b, c] k2 pt2) pos) (sParX [i, j, l] mr) := by
  refine ⟨⟨fun pins s σ H E I h => (ps_par3 hc hN hi hj hl hij hil hjl hx hy hz ha.run hw hs).run pins s σ H E I ?_⟩, sParX_mono ha⟩
  obtain ⟨y, dr, F, env, re, hm⟩ := h
  refine ⟨y, dr, F, env, re, ha.mono _ _ _ (fun its hd vs H' F' r1 s1 w => ?_) (ha.len _ _ hm)⟩
  have h1 := xall_len w
  have h2 := xall_put r1 w (is := [i, j, l]) hd.1.symm
  have hl : vs.length = 3 := by rw [← h1, hd.1]; rfl
  match vs, hl with
  | [v1, v2, v3], _ => exact ⟨v1, v2, v3, rfl, hd.2 dr F' _ H' h2 s1.f⟩
/-- the targets are names, however many, the tuple is built -/
inductive NTs (X : Cx) : List Expr → List Nat → Prop
  | nil : NTs X [] []
  | cons {x : Str} {p : Pos} {i : Nat} {es : List Expr} {is : List Nat} : X.N[i]? = some x → Loc X.env.scope x → (X.fn x = true ∨ X.env.scope.names.lookup x = some .local) →
      (assignEach (.Name x p :: es) X.env).map (·.2) = assign (.Name x p) X.env :: (assignEach es X.env).map (·.2) → NTs X es is → NTs X (.Name x p :: es) (i :: is)
theorem nt_run (hN : X.N.Nodup) : ∀ {es : List Expr} {is : List Nat}, NTs X es is → PGs X es fun vs σ H Q => vs.length = is.length ∧ Q (putV' σ is vs) H
  | _, _, .nil => ⟨fun pins s σ H vs us Q I r h => pgs_nil.run pins s σ H vs us Q I r (by
      have h1 : vs = [] := List.eq_nil_of_length_eq_zero h.1
      subst h1
      exact ⟨rfl, h.2⟩)⟩
  | _, _, .cons h1 h2 h3 h4 t => ⟨fun pins s σ H vs us Q I r h => (pgs_cons (pg_name hN h1 h2 h3) (nt_run hN t) h4).run pins s σ H vs us Q I r (by
      cases vs with
      | nil => simp at h
      | cons v vs => exact ⟨v, vs, rfl, by simpa using h.1, h.2⟩)⟩
theorem XAll.grown {K : Fg} {y : Cy} {dr : Option Addr} {F H : Hp} {env : En} {σ : L2.St} {q : Addr} {o : HO} (hq : H q = none) : ∀ {ss : List Sl} {vs : List V}, XAll K y dr F H env σ ss vs → XAll K y dr F (upd H q o) env σ ss vs
  | _, _, .nil => .nil
  | _, _, .cons (s := s) (v := v) a r t => .cons (by
      cases s with
      | v d => exact a
      | l xs => obtain ⟨p, ws, h1, h2, h3⟩ := a; exact ⟨p, ws, h1, by rw [upd_ne (ne_of_none h2 hq)]; exact h2, h3⟩
      | k xs => obtain ⟨p, ws, h1, h2, h3⟩ := a; exact ⟨p, ws, h1, by rw [upd_ne (ne_of_none h2 hq)]; exact h2, h3⟩
      | _ => exact a) r (XAll.grown hq t)
theorem ms_tupX {tgs : List Expr} {is : List Nat} {kt k2 : Nat} {pt pt2 : Pos} {n : Nat} (hc : X.calm = true) (hN : X.N.Nodup) (ht : NTs X tgs is) (ha : MX X es mr) (hn : (assignEach tgs X.env).length = n := by rfl) (hst : (assignEach tgs X.env).findIdx? (·.1) = none := by rfl) (hl : is.length = n := by rfl) (hl2 : is.length ≤ 1000 := by decide) (hl3 : is.length = es.length := by rfl)
    (hs : swapsWithSole [.Tuple tgs kt pt] (.Tuple es k2 pt2) pos.line X.env = pure false := by rfl) (hw : swappedStores [.Tuple tgs kt pt] (.Tuple es k2 pt2) X.env = pure none := by rfl)
    (h1 : (assignEach [.Tuple tgs kt pt] X.env).map (·.2) = [assign (.Tuple tgs kt pt) X.env] := by rfl) : MS X (.Assign [.Tuple tgs kt pt] (.Tuple es k2 pt2) pos) (sParX is mr) := by
  refine ⟨⟨fun pins s σ H E I h => (ps_asg (pe_tup ha.run) (pg_tup hc (nt_run hN ht) hn hst) hs hw h1).run pins s σ H E I ?_⟩, sParX_mono ha⟩
  obtain ⟨y, dr, F, env, re, hm⟩ := h
  refine ⟨y, dr, F, env, re, ha.mono _ _ _ (fun its hd vs H' F' r1 s1 w => ?_) (ha.len _ _ hm)⟩
  have e1 := xall_len w
  have hd1 : is.length = its.length := hl3.trans hd.1.symm
  refine ⟨by rw [← e1, ← hd1, sizeLine_eq]; omega, fun q hq => ?_⟩
  have r2 := r1.grown (o := .tup vs) hq
  exact ⟨q, vs, rfl, .inl (.inl upd_same), by rw [← e1, ← hd1]; exact hl, by rw [← e1]; exact hd1.symm, hd.2 dr F' _ _ (xall_put r2 (w.grown hq) hd1) s1.f⟩
end
end Mi

namespace Mi
open PySem PySem.Spec L2
theorem hu65 {A : Around} {k : Nat} (hr : Room k A) : A.units + 65 < cLine := by have := hr.un; omega
/-- a constant of the top's -/
def Con (K : Fg) (mg : Str → Option Value) (x : Str) (d : D) : Prop := ∃ (v : V) (u : Value), mg x = some u ∧ RelV v u ∧ ∀ F, Rv K F d v
section
variable {X : Cx} {b : Bool} {pos : Pos}
theorem me_glob {x : Str} {d : D} (h : Con X.G X.mg x d) (hg : Gl X x := by rfl) (hd : (x == ("__debug__" : Str)) = false := by decide) : ME X b (.Name x pos) (sC d) := by
  obtain ⟨v, u, h1, h2, h3⟩ := h
  exact me_con (pe_glob hg h1 h2 hd) h3
end
section
variable {P : Program} {w : World} {K : Fg} {mg : Str → Option Value} {base : Heap}
theorem con_int {h : Heap} {x : Str} {i : Int} {t : Tok} (X : K.K.In h) (G : h.Ns mainGlobals mg) (a : PySem.W.nsIn K mainGlobals x = some (some (.int i t))) : Con K mg x (.int i) := ⟨.int i, .int i t, PySem.W.mg_of X G a, ⟨t, rfl⟩, fun _ => .int i⟩
theorem con_str {h : Heap} {x : Str} {i : Str} {t : Tok} (X : K.K.In h) (G : h.Ns mainGlobals mg) (hl : i.length ≤ sizeLine) (a : PySem.W.nsIn K mainGlobals x = some (some (.str i t))) : Con K mg x (.str i) := ⟨.str i, .str i t, PySem.W.mg_of X G a, ⟨t, rfl⟩, fun _ => .str i hl⟩
theorem law_ok2 {K : PySem.W.Frag} {x qual : Str} {st : Stmt} {f : Addr} {fd : FuncData} {N : List Str} {k i : Nat} {m : SS} (F : Fun K x qual st f fd) (S : FnScope N ["script"] (defScope st)) (hN : 0 < N.length)
    (hbody : ∀ (cdv : Value) (A : Around) (outer : List Env) (s : Shared) (H : Hp) (E : XK), Room k (A.deeper (PyProof.Rows.envOfC qual (defScope st) s.heap.objs.size f cdv)) →
      PSs (cxOf CX0 P w K mg base N qual (defScope st) f cdv A outer s H E).nox (defBody st) (tSeq (tAsg (tDraw K) (gName i)) (lS ⟨K, P, w⟩ m)) ∧ ∀ (a c : Ks) env, KLe a c → m a env → m c env)
    (hm : m kL (env0 N.length i)) : FnOk P w K mg base CX0 (k + 1) f fd ["script"] (spLaw K) := by
  by_cases mono : ∀ (a c : Ks) env, KLe a c → m a env → m c env
  · exact law_ok F S hN (fun cdv A outer s H E hr => (hbody cdv A outer s H E hr).1) hm mono
  · refine F.ok S (fun vs H Q E h => ?_) (fun cdv A outer s H vs Q E hr h => ?_)
    · obtain ⟨a, ns, rfl, _⟩ := h
      rfl
    · exact absurd (hbody cdv A outer s H E hr).2 mono
theorem pss_and {X : Cx} {rest : List Stmt} {m : SS} {e : Expr} {te : TE} {x : Str} {i : Nat} {pos pos' : Pos} (h : PE X e te) (hN : X.N.Nodup) (hi : X.N[i]? = some x) (hx : Loc X.env.scope x) (hs : swapsWith e (some (.Name x pos')) pos.line X.env = pure false)
    (hf : X.fn x = true ∨ X.env.scope.names.lookup x = some .local) (M : MSs X rest m) : PSs X (.Assign [.Name x pos'] e pos :: rest) (tSeq (tAsg te (gName i)) (lS X.G m)) ∧ ∀ (a c : Ks) env, KLe a c → m a env → m c env :=
  ⟨pss_cons (ps_set hN hi hx h hs hf) M.run, M.mono⟩
/-! ### _law_same of two equal values -/
def pl : Nat → D → Bool
  | 0, _ => false
  | n + 1, .list xs => decide (xs.length ≤ 16777216) && xs.all (pl n)
  | n + 1, .tuple xs => decide (xs.length ≤ 16777216) && xs.all (pl n)
  | _ + 1, .dict _ => false
  | _ + 1, _ => true
def smS (n : Nat) : Sm := fun args Q => ∃ a, args = [.v a, .v a] ∧ pl n a = true ∧ Q (.bool true)
end
end Mi

namespace Mi
open PySem PySem.Spec L2
/-! ### reading a meaning -/
def oK (s : Sl) (P : List D → Prop) : Prop := match s with
  | .l xs => P xs
  | _ => False
@[simp] theorem u_sC {d : D} {v0_ : En} {Q : D → Prop} : sC d v0_ Q = (Q d) := rfl
@[simp] theorem u_sOp {f : D → D → Option D} {a c : SE} {env : En} {Q : D → Prop} : sOp f a c env Q = (a env fun x => c env fun z => ob (f x z) Q) := rfl
@[simp] theorem u_sUn {f : D → Option D} {a : SE} {env : En} {Q : D → Prop} : sUn f a env Q = (a env fun x => ob (f x) Q) := rfl
@[simp] theorem u_sSeq {a c : SS} {K : Ks} {env : En} : sSeq a c K env = (a ⟨fun e => c K e, K.rt, K.bk, K.ct⟩ env) := rfl
@[simp] theorem u_sSkip  {K : Ks} {env : En} : sSkip K env = (K.nx env) := rfl
@[simp] theorem u_sBrk  {K : Ks} {env : En} : sBrk K env = (K.bk env) := rfl
@[simp] theorem u_sCnt  {K : Ks} {env : En} : sCnt K env = (K.ct env) := rfl
@[simp] theorem u_sDrop {m : SE} {K : Ks} {env : En} : sDrop m K env = (m env fun _ => K.nx env) := rfl
@[simp] theorem u_sRet {m : SE} {K : Ks} {env : En} : sRet m K env = (m env K.rt) := rfl
@[simp] theorem u_sRetN  {K : Ks} {v1_ : En} : sRetN K v1_ = (K.rt .none) := rfl
@[simp] theorem u_sIfS {t : SB} {m m' : SS} {K : Ks} {env : En} : sIfS t m m' K env = (t env fun k => if k = true then m K env else m' K env) := rfl
@[simp] theorem u_sFz {i : Nat} {m : SS} {K : Ks} {env : En} : sFz i m K env = (m K (fz i env)) := rfl
@[simp] theorem u_sAsg {i : Nat} {m : SE} {K : Ks} {env : En} : sAsg i m K env = (m env fun d => K.nx (env.set i (.v d))) := rfl
@[simp] theorem u_sOwn {i : Nat} {m : SL} {K : Ks} {env : En} : sOwn i m K env = (m env fun xs => K.nx (env.set i (.l xs))) := rfl
@[simp] theorem u_gN {i : Nat} {d : D} {env : En} {Q : En → Prop} : gN i d env Q = (Q (env.set i (.v d))) := rfl
@[simp] theorem u_sAsgG {m : SE} {g : SG} {K : Ks} {env : En} : sAsgG m g K env = (m env fun d => g d env K.nx) := rfl
@[simp] theorem u_sFor {src : SI} {g : SG} {body : SS} {K : Ks} {env : En} : sFor src g body K env = (src env fun ds => forGo g body K ds env) := rfl
@[simp] theorem u_sLc {src : SI} {own : List Nat} {g : SG} {t : SB} {el : SE} {env : En} {Q : List D → Prop} : sLc src own g t el env Q = (src env fun ds => lcGo g t el (wipeE env own) ds Q) := rfl
@[simp] theorem u_rNil  {v0_ : En} {Q : List Sl → Prop} : rNil v0_ Q = (Q []) := rfl
@[simp] theorem u_rCons {m : SE} {r : SR} {env : En} {Q : List Sl → Prop} : rCons m r env Q = (m env fun d => r env fun ds => Q (.v d :: ds)) := rfl
@[simp] theorem u_sCall {n : Nat} {sm : Sm} {mr : SR} {env : En} {Q : D → Prop} : sCall n sm mr env Q = (mr env fun args => up sm args Q) := rfl
@[simp] theorem u_xNil  {v0_ : En} {Q : List Sl → Prop} : xNil v0_ Q = (Q []) := rfl
@[simp] theorem u_xV {m : SE} {r : SX} {env : En} {Q : List Sl → Prop} : xV m r env Q = (m env fun d => r env fun its => Q (.v d :: its)) := rfl
@[simp] theorem u_xL {m : SL} {r : SX} {env : En} {Q : List Sl → Prop} : xL m r env Q = (m env fun xs => r env fun its => Q (.l xs :: its)) := rfl
@[simp] theorem u_sParX {is : List Nat} {m : SX} {K : Ks} {env : En} : sParX is m K env = (m env fun its => K.nx (putX env is its)) := rfl
@[simp] theorem u_sAnd {ta tc : SB} {env : En} {Q : Bool → Prop} : sAnd ta tc env Q = (ta env fun k => if k = true then tc env Q else Q false) := rfl
@[simp] theorem u_sOr {ta tc : SB} {env : En} {Q : Bool → Prop} : sOr ta tc env Q = (ta env fun k => if k = true then Q true else tc env Q) := rfl
@[simp] theorem u_sNot {ta : SB} {env : En} {Q : Bool → Prop} : sNot ta env Q = (ta env fun k => Q (!k)) := rfl
@[simp] theorem u_sIf {t : SB} {ma mc : SE} {env : En} {Q : D → Prop} : sIf t ma mc env Q = (t env fun k => if k = true then ma env Q else mc env Q) := rfl
@[simp] theorem u_sNil  {v0_ : En} {Q : List D → Prop} : sNil v0_ Q = (Q []) := rfl
@[simp] theorem u_sCons {m : SE} {r : SA} {env : En} {Q : List D → Prop} : sCons m r env Q = (m env fun d => r env fun ds => Q (d :: ds)) := rfl
@[simp] theorem u_sTup {m : SA} {env : En} {Q : D → Prop} : sTup m env Q = (m env fun ds => Q (.tuple ds)) := rfl
@[simp] theorem u_sFr {m : SL} {env : En} {Q : D → Prop} : sFr m env Q = (m env fun xs => Q (.list xs)) := rfl
@[simp] theorem u_sItems {m : SA} {env : En} {Q : List D → Prop} : sItems m env Q = (m env Q) := rfl
@[simp] theorem u_sNo  {v0_ : En} {Q : Option Int → Prop} : sNo v0_ Q = (Q none) := rfl
@[simp] theorem u_iVal {m : SE} {env : En} {Q : List D → Prop} : iVal m env Q = (m env fun d => obL (itemsOf d) Q) := rfl
@[simp] theorem u_iEn {k : Int} {m : SE} {env : En} {Q : List D → Prop} : iEn k m env Q = (m env fun d => obL (itemsOf d) fun xs => Q (enumL k xs)) := rfl
@[simp] theorem u_iZp {m m' : SE} {env : En} {Q : List D → Prop} : iZp m m' env Q = (m env fun d => m' env fun d' => obL (itemsOf d) fun xs => obL (itemsOf d') fun zs => Q (zipL xs zs)) := rfl
@[simp] theorem u_sApp {i : Nat} {m : SE} {K : Ks} {env : En} : sApp i m K env = (ownL env i fun xs => m env fun d => xs.length < 16777216 ∧ K.nx (env.set i (.l (xs ++ [d])))) := rfl
@[simp] theorem u_sAndV {ma mc : SE} {env : En} {Q : D → Prop} : sAndV ma mc env Q = (ma env fun x => obB (tru x) fun k => if k = true then mc env Q else Q x) := rfl
@[simp] theorem u_sOrV {ma mc : SE} {env : En} {Q : D → Prop} : sOrV ma mc env Q = (ma env fun x => obB (tru x) fun k => if k = true then Q x else mc env Q) := rfl
@[simp] theorem u_sNotV {ma : SE} {env : En} {Q : D → Prop} : sNotV ma env Q = (ma env fun x => obB (tru x) fun k => Q (.bool (!k))) := rfl
@[simp] theorem u_sTru {m : SE} {env : En} {Q : Bool → Prop} : sTru m env Q = (m env fun d => obB (tru d) Q) := rfl
@[simp] theorem u_sSl {m : SE} {l h : SO} {env : En} {Q : D → Prop} : sSl m l h env Q = (m env fun x => l env fun lo => h env fun hi => ob (slD x lo hi) Q) := rfl
@[simp] theorem u_sSeqq {m : SE} {env : En} {Q : List D → Prop} : sSeq' m env Q = (m env fun d => obL (seqOf d) Q) := rfl
@[simp] theorem u_sSort {m : SE} {env : En} {Q : List D → Prop} : sSort m env Q = (m env fun d => obL (seqOf d) fun xs => SrtOk xs ∧ Q (srt xs)) := rfl
@[simp] theorem u_ownL {env : En} {i : Nat} {P : List D → Prop} : ownL env i P = oK (gv env i) P := rfl
@[simp] theorem oK_l {xs : List D} {P : List D → Prop} : oK (.l xs) P = P xs := rfl
@[simp] theorem putX_c {env : En} {i : Nat} {is : List Nat} {s : Sl} {ss : List Sl} : putX env (i :: is) (s :: ss) = putX (env.set i s) is ss := rfl
@[simp] theorem putX_n {env : En} : putX env [] [] = env := rfl
@[simp] theorem wipeE_n {env : En} : wipeE env [] = env := rfl
@[simp] theorem wipeE_c {env : En} {v : Nat} {vs : List Nat} : wipeE env (v :: vs) = (wipeE env vs).set v .un := rfl
@[simp] theorem u_fz {i : Nat} {env : En} : fz i env = match env[i]? with | some s => env.set i (fzS s) | none => env := rfl
@[simp] theorem fzS_l {xs : List D} : fzS (.l xs) = .v (.list xs) := rfl
@[simp] theorem fzS_v {d : D} : fzS (.v d) = .v d := rfl
@[simp] theorem fzS_k {kvs : List (Key × D)} : fzS (.k kvs) = .v (.dict (kdD kvs)) := rfl
@[simp] theorem fzS_t {kvs : List (List Key × D)} : fzS (.t kvs) = .v (.dict (ktM kvs)) := rfl
@[simp] theorem u_tYes {env : En} {R : Bool → Prop} : tYes' env R = R true := rfl
@[simp] theorem kL_rt {d : D} : kL.rt d = (d = .bool true) := rfl
@[simp] theorem kL_nx {e : En} : kL.nx e = False := rfl
def chK (d : D) (P : Prop) (Q : D → Prop) : Prop := match d with
  | .bool true => P
  | .bool false => Q (.bool false)
  | _ => False
@[simp] theorem chK_t {P : Prop} {Q : D → Prop} : chK (.bool true) P Q = P := rfl
@[simp] theorem chK_f {P : Prop} {Q : D → Prop} : chK (.bool false) P Q = Q (.bool false) := rfl
theorem chK_b {k : Bool} {P : Prop} {Q : D → Prop} : chK (.bool k) P Q = if k = true then P else Q (.bool false) := by cases k <;> simp
@[simp] theorem chK_d {p : Prop} [Decidable p] {P : Prop} {Q : D → Prop} : chK (.bool (decide p)) P Q = if p then P else Q (.bool false) := by rw [chK_b]; by_cases h : p <;> simp [h]
@[simp] theorem u_sChain {f g : D → D → Option D} {ma mc me : SE} {env : En} {Q : D → Prop} : sChain f g ma mc me env Q = (ma env fun x => mc env fun z => ob (f x z) fun t => chK t (me env fun w => ob (g z w) Q) Q) := rfl
def svK (s : Sl) (Q : D → Prop) : Prop := match s with
  | .v d => Q d
  | _ => False
def sbK (s : Sl) (Q : D → Prop) : Prop := match s with
  | .v d => Q d
  | .l xs => Q (.list xs)
  | .k kvs => Q (.dict (kdD kvs))
  | .t kvs => Q (.dict (ktM kvs))
  | _ => False
section
variable {i j : Int} {x z : Str} {c k : Bool} {xs ys : List D} {d e : D} {env : En} {Q : D → Prop} {R : Bool → Prop} {P : List D → Prop} {n : Nat}
@[simp] theorem sVar_eq : sVar n env Q = svK (gv env n) Q := rfl
@[simp] theorem svK_v : svK (.v d) Q = Q d := rfl
@[simp] theorem sBor_eq : sBor n env Q = sbK (gv env n) Q := rfl
@[simp] theorem sbK_v : sbK (.v d) Q = Q d := rfl
@[simp] theorem sbK_l : sbK (.l xs) Q = Q (.list xs) := rfl
@[simp] theorem sbK_k {kvs} : sbK (.k kvs) Q = Q (.dict (kdD kvs)) := rfl
@[simp] theorem sbK_t {kvs} : sbK (.t kvs) Q = Q (.dict (ktM kvs)) := rfl
@[simp] theorem ob_s : ob (some d) Q = Q d := rfl
@[simp] theorem ob_n : ob none Q = False := rfl
@[simp] theorem obB_s : obB (some c) R = R c := rfl
@[simp] theorem obL_s : obL (some xs) P = P xs := rfl
@[simp] theorem add_i : addD (.int i) (.int j) = some (.int (i + j)) := rfl
@[simp] theorem sub_i : subD (.int i) (.int j) = some (.int (i - j)) := rfl
theorem fdiv_i (h : 0 < j ∧ j < 1073741824) : fdivD (.int i) (.int j) = some (.int (i / j)) := cIf_pos h
theorem mod_i (h : 0 < j) : modD (.int i) (.int j) = some (.int (i % j)) := by unfold modD; simp [h]
theorem mul_i (h : small i = true ∨ small j = true) : mulD (.int i) (.int j) = some (.int (i * j)) := by unfold mulD; simp [h]
@[simp] theorem neg_i : negD (.int i) = some (.int (-i)) := rfl
@[simp] theorem lt_i : ltD (.int i) (.int j) = some (.bool (decide (i < j))) := rfl
@[simp] theorem le_i : leD (.int i) (.int j) = some (.bool (decide (i ≤ j))) := rfl
@[simp] theorem gt_i : gtD (.int i) (.int j) = some (.bool (decide (j < i))) := rfl
@[simp] theorem ge_i : geD (.int i) (.int j) = some (.bool (decide (j ≤ i))) := rfl
@[simp] theorem eq_i : eqD (.int i) (.int j) = some (.bool (decide (i = j))) := rfl
@[simp] theorem ne_i : neD (.int i) (.int j) = some (.bool (!decide (i = j))) := rfl
@[simp] theorem eq_s : eqD (.str x) (.str z) = some (.bool (decide (x = z))) := rfl
@[simp] theorem ne_s : neD (.str x) (.str z) = some (.bool (!decide (x = z))) := rfl
@[simp] theorem eq_b : eqD (.bool c) (.bool k) = some (.bool (decide (c = k))) := rfl
@[simp] theorem ne_b : neD (.bool c) (.bool k) = some (.bool (!decide (c = k))) := rfl
@[simp] theorem is_n : isD d .none = some (.bool (isN d)) := rfl
@[simp] theorem isn_n : isnD d .none = some (.bool (!isN d)) := rfl
@[simp] theorem isN_n : isN .none = true := rfl
@[simp] theorem isN_b : isN (.bool c) = false := rfl
@[simp] theorem isN_i : isN (.int i) = false := rfl
@[simp] theorem isN_s : isN (.str x) = false := rfl
@[simp] theorem isN_l : isN (.list xs) = false := rfl
@[simp] theorem isN_t : isN (.tuple xs) = false := rfl
@[simp] theorem tru_b : tru (.bool c) = some c := rfl
@[simp] theorem tru_i : tru (.int i) = some (i != 0) := rfl
@[simp] theorem tru_l : tru (.list xs) = some (!xs.isEmpty) := rfl
@[simp] theorem tru_t : tru (.tuple xs) = some (!xs.isEmpty) := rfl
@[simp] theorem tru_n : tru .none = some false := rfl
@[simp] theorem sTB_eq {m : SE} : sTB m env R = m env fun d => match d with | .bool c => R c | _ => False := rfl
@[simp] theorem sPart_eq {m : SE} {S : Option Int → Prop} : sPart m env S = m env fun d => match d with | .int i => S (some i) | _ => False := rfl
@[simp] theorem len_l : lenD (.list xs) = some (.int xs.length) := rfl
@[simp] theorem len_t : lenD (.tuple xs) = some (.int xs.length) := rfl
@[simp] theorem len_s : lenD (.str x) = some (.int x.length) := rfl
@[simp] theorem abs_i : absD (.int i) = some (.int (if i < 0 then -i else i)) := rfl
@[simp] theorem int_i : intD (.int i) = some (.int i) := rfl
@[simp] theorem int_b : intD (.bool c) = some (.int (if c then 1 else 0)) := rfl
@[simp] theorem max_i : max2D (.int i) (.int j) = some (.int (max i j)) := rfl
@[simp] theorem min_i : min2D (.int i) (.int j) = some (.int (min i j)) := rfl
@[simp] theorem seq_l : seqOf (.list xs) = some xs := rfl
@[simp] theorem seq_t : seqOf (.tuple xs) = some xs := rfl
@[simp] theorem items_l : itemsOf (.list xs) = some xs := rfl
@[simp] theorem items_t : itemsOf (.tuple xs) = some xs := rfl
@[simp] theorem tup_l : tupD (.list xs) = some (.tuple xs) := rfl
@[simp] theorem tup_t : tupD (.tuple xs) = some (.tuple xs) := rfl
@[simp] theorem slD_l {a b : Option Int} : slD (.list xs) a b = some (.list (cut xs a b)) := rfl
@[simp] theorem slD_t {a b : Option Int} : slD (.tuple xs) a b = some (.tuple (cut xs a b)) := rfl
@[simp] theorem gNo_nil {S : En → Prop} : gNo [] env S = S env := rfl
@[simp] theorem gCo_cons {g : SG} {gs : SGs} {S : En → Prop} : gCo g gs (d :: xs) env S = g d env fun e => gs xs e S := rfl
@[simp] theorem gT_eq {gs : SGs} {S : En → Prop} : gT n gs (.tuple xs) env S = gs xs env S := rfl
@[simp] theorem iR1_eq {m : SE} : iR1 m env P = m env fun d => match d with | .int n => (n ≤ 16777216 ∧ -4611686018427387904 ≤ n) ∧ P (dInts (rng 0 n)) | _ => False := rfl
@[simp] theorem iR2_eq {m m' : SE} : iR2 m m' env P = m env fun d => m' env fun d' => match d, d' with | .int lo, .int hi => (-4611686018427387904 ≤ lo ∧ lo < 4611686018427387904 ∧ -4611686018427387904 ≤ hi ∧ hi < 4611686018427387904 ∧ hi - lo ≤ 16777216) ∧ P (dInts (rng lo hi)) | _, _ => False := rfl
@[simp] theorem sPar_eq {a b : Nat} {m : SA} {K : Ks} : sPar a b m K env = m env fun ds => match ds with | [d, d'] => K.nx ((env.set a (.v d)).set b (.v d')) | _ => False := rfl
@[simp] theorem sPar3_eq {a b l : Nat} {m : SA} {K : Ks} : sPar3 a b l m K env = m env fun ds => match ds with | [d, d', d''] => K.nx (((env.set a (.v d)).set b (.v d')).set l (.v d'')) | _ => False := rfl
@[simp] theorem sNext_eq {a : Nat} {m : SE} : sNext a m env Q = (gv env a = .dr ∧ m env fun d => match d with | .int k => (0 < k ∧ k < 1073741824) ∧ ∀ n : Int, 0 ≤ n → n < k → Q (.int n) | _ => False) := rfl
@[simp] theorem rDr_eq {a : Nat} {r : SR} {S : List Sl → Prop} : rDr a r env S = (gv env a = .dr ∧ r env fun ds => S (.dr :: ds)) := rfl
@[simp] theorem isK_n {t : Ty} : isK t .none = some false := rfl
@[simp] theorem is1_n {t : Ty} : is1D t .none = some (.bool false) := rfl
@[simp] theorem is1_l {t : Ty} : is1D t (.list xs) = some (.bool (match t with | .list => true | _ => false)) := rfl
@[simp] theorem is1_t {t : Ty} : is1D t (.tuple xs) = some (.bool (match t with | .tuple => true | _ => false)) := rfl
@[simp] theorem is1_i {t : Ty} : is1D t (.int i) = some (.bool (match t with | .int => true | _ => false)) := rfl
@[simp] theorem is1_s {t : Ty} : is1D t (.str x) = some (.bool (match t with | .str => true | _ => false)) := rfl
@[simp] theorem is1_b {t : Ty} : is1D t (.bool c) = some (.bool (match t with | .bool => true | .int => true | _ => false)) := rfl
@[simp] theorem is2_lt_l : is2D .list .tuple (.list xs) = some (.bool true) := rfl
@[simp] theorem is2_lt_t : is2D .list .tuple (.tuple xs) = some (.bool true) := rfl
@[simp] theorem is2_lt_n : is2D .list .tuple .none = some (.bool false) := rfl
@[simp] theorem is2_lt_i : is2D .list .tuple (.int i) = some (.bool false) := rfl
@[simp] theorem is2_lt_b : is2D .list .tuple (.bool c) = some (.bool false) := rfl
@[simp] theorem is2_lt_s : is2D .list .tuple (.str x) = some (.bool false) := rfl
@[simp] theorem dInts_len {ns : List Int} : (dInts ns).length = ns.length := by unfold dInts; simp
end
@[simp] theorem gv_0 {a : Sl} {l : En} : gv (a :: l) 0 = a := rfl
@[simp] theorem gv_s {a : Sl} {l : En} {n : Nat} : gv (a :: l) (n + 1) = gv l n := rfl
@[simp] theorem at0 {α : Type} {a : α} {l : List α} : atI (a :: l) 0 = some a := by
  have h : ((0 : Nat) : Int) = 0 := rfl
  rw [← h]; exact atI_nat rfl
@[simp] theorem at1 {α : Type} {a b : α} {l : List α} : atI (a :: b :: l) 1 = some b := by
  have h : ((1 : Nat) : Int) = 1 := rfl
  rw [← h]; exact atI_nat rfl
@[simp] theorem at2 {α : Type} {a b c : α} {l : List α} : atI (a :: b :: c :: l) 2 = some c := by
  have h : ((2 : Nat) : Int) = 2 := rfl
  rw [← h]; exact atI_nat rfl
@[simp] theorem at3 {α : Type} {a b c d : α} {l : List α} : atI (a :: b :: c :: d :: l) 3 = some d := by
  have h : ((3 : Nat) : Int) = 3 := rfl
  rw [← h]; exact atI_nat rfl
@[simp] theorem ixD_list {xs : List D} {i : Int} : ixD (.list xs) (.int i) = atI xs i := rfl
@[simp] theorem ixD_tup {xs : List D} {i : Int} : ixD (.tuple xs) (.int i) = atI xs i := rfl
theorem at_some {α : Type} {xs : List α} {i : Int} {j : Nat} {d : α} (h : i = (j : Int)) (e : xs[j]? = some d) : atI xs i = some d := by
  subst h; exact atI_nat e
theorem at_lt {α : Type} {xs : List α} {i : Nat} (h : i < xs.length) : atI xs (i : Int) = some xs[i] := atI_nat (by simp [h])
/-! loops -/
/-- a loop: E i holds of the names ahead of the i-th turn; R is what follows a turn -/
theorem for_idx {g : SG} {body : SS} {K : Ks} {xs : List D} {E : Nat → En → Prop} (hs : ∀ i d env (R : En → Prop), xs[i]? = some d → E i env → (∀ e, E (i + 1) e → R e) → g d env fun e1 => body ⟨R, K.rt, K.nx, R⟩ e1) (hd : ∀ e, E xs.length e → K.nx e) {env : En} (h0 : E 0 env) : forGo g body K xs env := by
  have : ∀ (ys : List D) (i : Nat) (env : En), xs.drop i = ys → i ≤ xs.length → E i env → forGo g body K ys env := by
    intro ys
    induction ys with
    | nil =>
      intro i env e hl h
      have : xs.length ≤ i := List.drop_eq_nil_iff.mp e
      have e2 : i = xs.length := by omega
      subst e2
      exact hd _ h
    | cons d ys ih =>
      intro i env e hl h
      have hi : i < xs.length := by
        refine Decidable.byContradiction fun z => ?_
        rw [List.drop_eq_nil_iff.mpr (by omega)] at e
        cases e
      rw [List.drop_eq_getElem_cons hi] at e
      injection e with e1 e2
      exact hs i d env (fun e => forGo g body K ys e) (by rw [← e1]; simp [hi]) h fun e he => ih (i + 1) e e2 hi he
  exact this xs 0 env (by simp) (Nat.zero_le _) h0
theorem rng_get {lo hi : Int} {i : Nat} {d : D} (h : (dInts (rng lo hi))[i]? = some d) : d = .int (lo + (i : Int)) ∧ lo + (i : Int) < hi := by
  have hi := (List.getElem?_eq_some_iff.mp h).1
  rw [rng_len] at hi
  unfold dInts rng at h
  rw [List.getElem?_map, List.getElem?_map, List.getElem?_range hi] at h
  simp at h
  exact ⟨h.symm, by omega⟩
/-- .. over a range -/
theorem for_rng {g : SG} {body : SS} {K : Ks} {lo hi : Int} {E : Int → En → Prop} (hs : ∀ (i : Int) env (R : En → Prop), lo ≤ i → i < hi → E i env → (∀ e, E (i + 1) e → R e) → g (.int i) env fun e1 => body ⟨R, K.rt, K.nx, R⟩ e1) (hd : ∀ e, E (max lo hi) e → K.nx e) {env : En} (h0 : E lo env) : forGo g body K (dInts (rng lo hi)) env := by
  refine for_idx (E := fun i e => E (lo + (i : Int)) e) (fun i d env R h he hr => ?_) (fun e he => hd e ?_) (by simpa using h0)
  · obtain ⟨rfl, h2⟩ := rng_get h
    exact hs _ env R (by omega) h2 he fun e h => hr e (by rw [show lo + ((i + 1 : Nat) : Int) = lo + (i : Int) + 1 by omega]; exact h)
  · rw [rng_len] at he
    rw [show max lo hi = lo + ((hi - lo).toNat : Int) by omega]
    exact he
/-- .. over a row of typed items: E of the items done -/
theorem for_pre {α : Type} {enc : α → D} {g : SG} {body : SS} {K : Ks} {xs : List α} {E : List α → En → Prop} (hs : ∀ pre a post env (R : En → Prop), xs = pre ++ a :: post → E pre env → (∀ e, E (pre ++ [a]) e → R e) → g (enc a) env fun e1 => body ⟨R, K.rt, K.nx, R⟩ e1) (hd : ∀ e, E xs e → K.nx e) {env : En} (h0 : E [] env) : forGo g body K (xs.map enc) env := by
  refine for_idx (E := fun i e => E (xs.take i) e) (fun i d env R h he hr => ?_) (fun e he => hd e (by simpa using he)) (by simpa using h0)
  rw [List.getElem?_map] at h
  cases q : xs[i]? with
  | none => rw [q] at h; cases h
  | some a =>
    rw [q] at h; cases h
    have hi := (List.getElem?_eq_some_iff.mp q).1
    refine hs (xs.take i) a (xs.drop (i + 1)) env R ?_ he fun e h => hr e ?_
    · rw [← (List.getElem?_eq_some_iff.mp q).2, ← List.drop_eq_getElem_cons hi, List.take_append_drop]
    · rw [List.take_succ, q]
      exact h
@[simp] theorem sizeLine_eq' : sizeLine = 16777216 := sizeLine_eq
/-- .. over a row of typed items, the state typed: a fold -/
theorem for_fold {α S : Type} {enc : α → D} {E : S → En → Prop} {g : SG} {body : SS} {K : Ks} {step : S → α → S} : ∀ (xs : List α) (s : S) (env : En)
    (hs : ∀ a ∈ xs, ∀ s env (R : En → Prop), E s env → (∀ e, E (step s a) e → R e) → g (enc a) env fun e1 => body ⟨R, K.rt, K.nx, R⟩ e1), E s env → (∀ e, E (xs.foldl step s) e → K.nx e) → forGo g body K (xs.map enc) env
  | [], s, env, _, h, hd => hd env h
  | a :: xs, s, env, hs, h, hd => hs a (by simp) s env (fun e => forGo g body K (xs.map enc) e) h fun e he => for_fold xs (step s a) e (fun b hb => hs b (by simp [hb])) he hd
/-- a comprehension: each item of the row kept or not, what is made of it -/
theorem lc_map {α : Type} {enc : α → D} {g : SG} {t : SB} {el : SE} {env : En} {p : α → Bool} {f : α → D} : ∀ (xs : List α) (Q : List D → Prop),
    (∀ a ∈ xs, ∀ (R : D → Prop) (S : Prop), (p a = true → R (f a)) → (p a = false → S) → g (enc a) env fun e1 => t e1 fun k => if k = true then el e1 R else S) → Q ((xs.filter p).map f) → lcGo g t el env (xs.map enc) Q
  | [], Q, _, h => h
  | a :: xs, Q, hs, h => by
    refine hs a (by simp) _ _ (fun hp => ?_) (fun hp => ?_)
    · refine lc_map xs _ (fun b hb => hs b (by simp [hb])) ?_
      rw [List.filter_cons_of_pos hp] at h
      exact h
    · refine lc_map xs _ (fun b hb => hs b (by simp [hb])) ?_
      rw [List.filter_cons_of_neg (by simp [hp])] at h
      exact h
/-- .. without an if -/
theorem lc_all {α : Type} {enc : α → D} {g : SG} {el : SE} {env : En} {f : α → D} : ∀ (xs : List α) (Q : List D → Prop),
    (∀ a ∈ xs, ∀ (R : D → Prop), R (f a) → g (enc a) env fun e1 => el e1 R) → Q (xs.map f) → lcGo g tYes' el env (xs.map enc) Q
  | [], Q, _, h => h
  | a :: xs, Q, hs, h => by
    have h1 := hs a (by simp) (fun r => lcGo g tYes' el env (xs.map enc) fun rs => Q (r :: rs)) (lc_all xs _ (fun b hb => hs b (by simp [hb])) h)
    exact h1
/-- .. drawn: any row of values of the kind P -/
theorem lc_dem {α β : Type} {enc : α → D} {g : SG} {el : SE} {env : En} {f : β → D} {P : β → Prop} : ∀ (xs : List α) (Q : List D → Prop),
    (∀ a ∈ xs, ∀ (R : D → Prop), (∀ r, P r → R (f r)) → g (enc a) env fun e1 => el e1 R) → (∀ rs : List β, rs.length = xs.length → (∀ r ∈ rs, P r) → Q (rs.map f)) → lcGo g tYes' el env (xs.map enc) Q
  | [], Q, _, h => h [] rfl (by simp)
  | a :: xs, Q, hs, h => by
    have h1 := hs a (by simp) (fun r => lcGo g tYes' el env (xs.map enc) fun rs => Q (r :: rs)) fun r hr => lc_dem xs _ (fun b hb => hs b (by simp [hb])) fun rs hl hrs => h (r :: rs) (by simp [hl]) (by simpa using ⟨hr, hrs⟩)
    exact h1
/-- a while: n turns at most; a turn that goes on leads to I (n - 1) -/
theorem wh_ind {t : SB} {body : SS} {K : Ks} {I : Nat → En → Prop} (hs : ∀ n env, I n env → ∀ R : En → Prop, (∀ e m, n = m + 1 → I m e → R e) → t env fun k => if k = true then body ⟨R, K.rt, K.nx, R⟩ env else K.nx env) : ∀ n env, I n env → whGo t body K (n + 1) env
  | 0, env, h => hs 0 env h (fun e => whGo t body K 0 e) fun e m hm => nomatch hm
  | n + 1, env, h => hs (n + 1) env h (fun e => whGo t body K (n + 1) e) fun e m hm hi => by
      cases hm
      exact wh_ind hs n e hi
/-! ### _law_same of two equal values -/
def bSame (sm : Sm) : SS := (sSeq (sIfS (sTru (sUn (is2D .list .tuple) (sVar 1))) (sSeq (sIfS (sOr (sTB (sOp neD (sUn (is1D .list) (sVar 1)) (sUn (is1D .list) (sVar 0)))) (sTB (sOp neD (sUn (is1D .tuple) (sVar 1)) (sUn (is1D .tuple) (sVar 0))))) (sRet (sC (.bool false))) sSkip)
    (sSeq (sIfS (sTB (sOp neD (sUn lenD (sVar 0)) (sUn lenD (sVar 1)))) (sRet (sC (.bool false))) sSkip)
    (sRet (sUn allD (sFr (sLc (iR1 (sUn lenD (sVar 1))) [2] (gN 2) tYes' (sCall 2 sm (rCons (sOp ixD (sVar 0) (sVar 2)) (rCons (sOp ixD (sVar 1) (sVar 2)) rNil))))))))) sSkip)
    (sSeq (sIfS (sTB (sOp isD (sVar 1) (sC .none))) (sRet (sOp isD (sVar 0) (sC .none))) sSkip)
    (sSeq (sIfS (sTB (sOp neD (sUn (is1D .bool) (sVar 1)) (sUn (is1D .bool) (sVar 0)))) (sRet (sC (.bool false))) sSkip)
    (sSeq (sIfS (sTru (sUn (is1D .str) (sVar 1))) (sRet (sAndV (sUn (is1D .str) (sVar 0)) (sOp eqD (sVar 0) (sVar 1)))) sSkip)
    (sRet (sAndV (sUn (is1D .int) (sVar 0)) (sOp eqD (sVar 0) (sVar 1))))))))
theorem rng0_map (n : Nat) : dInts (rng 0 (n : Int)) = (List.range n).map fun i : Nat => PyData.int i := by
  unfold dInts rng
  rw [List.map_map]
  simp
theorem same_lc {n : Nat} {xs : List D} {Q : List D → Prop} {w : List D → D} (hw : ∀ i, ixD (w xs) (.int i) = atI xs i) (hx : xs.all (pl n) = true) (h : Q (xs.map fun _ => .bool true)) :
    lcGo (gN 2) tYes' (sCall 2 (smS n) (rCons (sOp ixD (sVar 0) (sVar 2)) (rCons (sOp ixD (sVar 1) (sVar 2)) rNil))) [.v (w xs), .v (w xs), .un] (dInts (rng 0 (xs.length : Int))) Q := by
  rw [rng0_map]
  refine lc_all (f := fun _ => .bool true) _ _ (fun i hi R hR => ?_) ?_
  · have hi : i < xs.length := List.mem_range.mp hi
    simp only [gN, sCall, rCons, rNil, sOp, sVar, List.set, gv_0, gv_s, ob]
    rw [hw, at_lt hi]
    refine up_of ⟨xs[i], rfl, ?_, rfl⟩ hR
    exact List.all_eq_true.mp hx _ (List.getElem_mem hi)
  · have : (List.range xs.length).map (fun _ => PyData.bool true) = xs.map fun _ => .bool true := by
      apply List.ext_getElem
      · simp
      · intros; simp
    rw [this]; exact h
theorem bools_true (xs : List D) : allD (.list (xs.map fun _ => PyData.bool true)) = some (.bool true) := by
  have : xs.map (fun _ => PyData.bool true) = (xs.map fun _ => true).map PyData.bool := by rw [List.map_map]; rfl
  rw [this]
  unfold allD
  show (boolsOf _).map _ = _
  rw [boolsOf_map]
  simp
theorem same_math {n : Nat} {a : D} {Q : D → Prop} (hp : pl (n + 1) a = true) (hq : Q (.bool true)) : semD 3 (bSame (smS n)) [.v a, .v a] Q := by
  cases a with
  | none => exact hq
  | bool c => unfold semD bSame; simp; cases c <;> simp [hq]
  | int i => unfold semD bSame; simp; exact hq
  | str i => unfold semD bSame; simp; exact hq
  | list xs =>
    simp only [pl, Bool.and_eq_true, decide_eq_true_eq] at hp
    unfold semD bSame
    simp
    refine ⟨by have := hp.1; omega, ?_⟩
    refine same_lc (w := fun x => .list x) (fun _ => rfl) hp.2 ?_
    rw [bools_true]; exact hq
  | tuple xs =>
    simp only [pl, Bool.and_eq_true, decide_eq_true_eq] at hp
    unfold semD bSame
    simp
    refine ⟨by have := hp.1; omega, ?_⟩
    refine same_lc (w := fun x => .tuple x) (fun _ => rfl) hp.2 ?_
    rw [bools_true]; exact hq
  | _ => simp [pl] at hp
end Mi

namespace Mi
open PySem PySem.Spec L2
/-! ### sorted rows of ints -/
theorem leD_int (a b : Int) : leD' (.int a) (.int b) = decide (a ≤ b) := congrFun (congrFun (PySem.W.dataLe_int (β := Int) fun b => b) a) b
theorem srtOk_ints (ns : List Int) : SrtOk (dInts ns) where
  lay := by intro d hd; obtain ⟨i, _, rfl⟩ := List.mem_map.mp hd; rfl
  al := PySem.W.AllAlike.of fun _ _ => by simp [PySem.W.alike]
  so := PySem.W.Sortable.others fun _ => ⟨by simp, by simp⟩
  dp := by intro d hd; obtain ⟨i, _, rfl⟩ := List.mem_map.mp hd; simp [PyData.depth]
def isort (ns : List Int) : List Int := ns.mergeSort fun a b => decide (a ≤ b)
theorem srt_ints (ns : List Int) : srt (dInts ns) = dInts (isort ns) := by
  unfold srt dInts isort
  exact (List.map_mergeSort (fun a _ b _ => (leD_int a b).symm)).symm
theorem isort_mem {ns : List Int} {a : Int} : a ∈ isort ns ↔ a ∈ ns := List.mem_mergeSort
theorem isort_len (ns : List Int) : (isort ns).length = ns.length := List.length_mergeSort _
theorem isort_sorted (ns : List Int) : (isort ns).Pairwise (· ≤ ·) := by
  have h := List.pairwise_mergeSort (le := fun (a b : Int) => decide (a ≤ b)) (fun a b c h1 h2 => by simp at *; omega) (fun a b => by simp; omega) ns
  unfold isort
  exact h.imp fun h => by simpa using h
/-- the first of a row of ints that meets p, up to hi -/
theorem least {p : Int → Prop} [DecidablePred p] {lo hi : Int} (hl : lo ≤ hi) (hp : p hi) : ∃ m, lo ≤ m ∧ m ≤ hi ∧ p m ∧ ∀ k, lo ≤ k → k < m → ¬ p k := by
  have : ∀ (n : Nat) (lo : Int), (hi - lo).toNat = n → lo ≤ hi → ∃ m, lo ≤ m ∧ m ≤ hi ∧ p m ∧ ∀ k, lo ≤ k → k < m → ¬ p k := by
    intro n
    induction n with
    | zero =>
      intro lo h1 h2
      exact ⟨hi, h2, Int.le_refl _, hp, fun k h3 h4 => by omega⟩
    | succ n ih =>
      intro lo h1 h2
      by_cases h : p lo
      · exact ⟨lo, Int.le_refl _, h2, h, fun k h3 h4 => by omega⟩
      · obtain ⟨m, h3, h4, h5, h6⟩ := ih (lo + 1) (by omega) (by omega)
        refine ⟨m, by omega, h4, h5, fun k h7 h8 => ?_⟩
        by_cases e : k = lo
        · rw [e]; exact h
        · exact h6 k (by omega) h8
  exact this _ lo rfl hl
theorem rng_mem {lo hi k : Int} : k ∈ rng lo hi ↔ lo ≤ k ∧ k < hi := by
  unfold rng
  simp only [List.mem_map, List.mem_range]
  constructor
  · rintro ⟨i, h, rfl⟩; omega
  · rintro ⟨h1, h2⟩; exact ⟨(k - lo).toNat, by omega, by omega⟩
theorem rng_cons {lo hi : Int} (h : lo < hi) : rng lo hi = lo :: rng (lo + 1) hi := by
  unfold rng
  have : (hi - lo).toNat = (hi - (lo + 1)).toNat + 1 := by omega
  rw [this, List.range_succ_eq_map, List.map_cons, List.map_map]
  congr 1
  · simp
  · apply List.map_congr_left
    intro i _
    simp only [Function.comp]
    omega
theorem rng_nil {lo hi : Int} (h : hi ≤ lo) : rng lo hi = [] := by
  unfold rng
  rw [show (hi - lo).toNat = 0 by omega]; rfl
theorem rng_filter_head {p : Int → Bool} {lo hi m : Int} (h1 : lo ≤ m) (h2 : m < hi) (hp : p m = true) (hn : ∀ k, lo ≤ k → k < m → p k = false) : ∃ r, (rng lo hi).filter p = m :: r := by
  have : ∀ (n : Nat) (lo : Int), (m - lo).toNat = n → lo ≤ m → (∀ k, lo ≤ k → k < m → p k = false) → ∃ r, (rng lo hi).filter p = m :: r := by
    intro n
    induction n with
    | zero =>
      intro lo e h1 _
      have : lo = m := by omega
      subst this
      rw [rng_cons h2, List.filter_cons_of_pos hp]
      exact ⟨_, rfl⟩
    | succ n ih =>
      intro lo e h1 hn
      rw [rng_cons (by omega), List.filter_cons_of_neg (by simp [hn lo (Int.le_refl _) (by omega)])]
      exact ih (lo + 1) (by omega) (by omega) fun k h3 h4 => hn k (by omega) h4
  exact this _ lo rfl h1 hn
theorem small_of {i : Int} (h : -1000000 < i) (h2 : i < 1000000) : small i = true := by unfold small; exact @decide_eq_true _ (Classical.propDecidable _) (by omega)
theorem dInts_get {ns : List Int} {i : Nat} (h : i < ns.length) : (dInts ns)[i]? = some (.int ns[i]) := by unfold dInts; rw [List.getElem?_map]; simp [h]
theorem at_dInts {ns : List Int} {i : Int} (h0 : 0 ≤ i) (h : i < ns.length) : atI (dInts ns) i = some (.int (ns[i.toNat]'(by omega))) := by
  have h2 : i.toNat < ns.length := by omega
  have := atI_nat (dInts_get h2)
  rw [show ((i.toNat : Nat) : Int) = i by omega] at this
  exact this
theorem pl_int {n : Nat} {i : Int} : pl (n + 1) (.int i) = true := rfl
theorem pl_ints {n : Nat} {ns : List Int} (h : ns.length ≤ 16777216) : pl (n + 2) (.list (dInts ns)) = true ∧ pl (n + 2) (.tuple (dInts ns)) = true := by
  have e : (dInts ns).all (pl (n + 1)) = true := by
    rw [List.all_eq_true]
    intro d hd
    obtain ⟨i, _, rfl⟩ := List.mem_map.mp hd
    rfl
  constructor <;> (simp only [pl, Bool.and_eq_true, decide_eq_true_eq, dInts_len]; exact ⟨h, e⟩)
end Mi

namespace Mi
open PySem PySem.Spec L2
/-! ### == of rows of ints -/
theorem canLay_ints : ∀ xs : List Int, PyData.canLayAll0 (dInts xs) = true
  | [] => rfl
  | x :: xs => by
    show (PyData.canLay0 (.int x) && PyData.canLayAll0 (dInts xs)) = true
    rw [canLay_ints xs]; rfl
theorem depth_ints0 : ∀ xs : List Int, PyData.depthAll (dInts xs) = 0
  | [] => rfl
  | x :: xs => by
    show max (PyData.depth (.int x)) (PyData.depthAll (dInts xs)) = 0
    rw [depth_ints0 xs]; rfl
theorem shaped_tI (xs : List Int) : SeqAt.shaped (.tuple (dInts xs)) = true := by
  have h : (PyData.tuple (dInts xs)).depth ≤ 64 := by show PyData.depthAll (dInts xs) + 1 ≤ 64; rw [depth_ints0]; decide
  exact Bool.and_eq_true_iff.mpr ⟨canLay_ints xs, decide_eq_true h⟩
theorem shaped_lI (xs : List Int) : SeqAt.shaped (.list (dInts xs)) = true := by
  have h : (PyData.list (dInts xs)).depth ≤ 64 := by show PyData.depthAll (dInts xs) + 1 ≤ 64; rw [depth_ints0]; decide
  exact Bool.and_eq_true_iff.mpr ⟨canLay_ints xs, decide_eq_true h⟩
theorem eqv_ints : ∀ xs ys : List Int, PyData.eqvAll (dInts xs) (dInts ys) = decide (xs = ys)
  | [], [] => rfl
  | [], _ :: _ => rfl
  | _ :: _, [] => rfl
  | x :: xs, y :: ys => by
    show (PyData.eqv (.int x) (.int y) && PyData.eqvAll (dInts xs) (dInts ys)) = _
    rw [eqv_ints xs ys]
    show ((x == y) && decide (xs = ys)) = _
    by_cases h1 : x = y <;> by_cases h2 : xs = ys <;> simp [h1, h2]
theorem eq_tI {xs ys : List Int} : eqD (.tuple (dInts xs)) (.tuple (dInts ys)) = some (.bool (decide (xs = ys))) := by
  have h : eqB (.tuple (dInts xs)) (.tuple (dInts ys)) = some (decide (xs = ys)) := by
    rw [← eqv_ints xs ys]
    exact if_pos ⟨shaped_tI xs, shaped_tI ys⟩
  unfold eqD
  rw [h]; rfl
theorem ne_tI {xs ys : List Int} : neD (.tuple (dInts xs)) (.tuple (dInts ys)) = some (.bool (!decide (xs = ys))) := by
  have h : eqB (.tuple (dInts xs)) (.tuple (dInts ys)) = some (decide (xs = ys)) := by
    rw [← eqv_ints xs ys]
    exact if_pos ⟨shaped_tI xs, shaped_tI ys⟩
  unfold neD
  rw [h]; rfl
theorem eq_lI {xs ys : List Int} : eqD (.list (dInts xs)) (.list (dInts ys)) = some (.bool (decide (xs = ys))) := by
  have h : eqB (.list (dInts xs)) (.list (dInts ys)) = some (decide (xs = ys)) := by
    rw [← eqv_ints xs ys]
    exact if_pos ⟨shaped_lI xs, shaped_lI ys⟩
  unfold eqD
  rw [h]; rfl
theorem ne_lI {xs ys : List Int} : neD (.list (dInts xs)) (.list (dInts ys)) = some (.bool (!decide (xs = ys))) := by
  have h : eqB (.list (dInts xs)) (.list (dInts ys)) = some (decide (xs = ys)) := by
    rw [← eqv_ints xs ys]
    exact if_pos ⟨shaped_lI xs, shaped_lI ys⟩
  unfold neD
  rw [h]; rfl
@[simp] theorem ne_t3 {a b c a' b' c' : Int} : neD (.tuple [.int a, .int b, .int c]) (.tuple [.int a', .int b', .int c']) = some (.bool (!decide (a = a' ∧ b = b' ∧ c = c'))) := by
  have := ne_tI (xs := [a, b, c]) (ys := [a', b', c'])
  simpa [dInts] using this
@[simp] theorem eq_t3 {a b c a' b' c' : Int} : eqD (.tuple [.int a, .int b, .int c]) (.tuple [.int a', .int b', .int c']) = some (.bool (decide (a = a' ∧ b = b' ∧ c = c'))) := by
  have := eq_tI (xs := [a, b, c]) (ys := [a', b', c'])
  simpa [dInts] using this
@[simp] theorem ne_t2 {a b a' b' : Int} : neD (.tuple [.int a, .int b]) (.tuple [.int a', .int b']) = some (.bool (!decide (a = a' ∧ b = b'))) := by
  have := ne_tI (xs := [a, b]) (ys := [a', b'])
  simpa [dInts] using this
@[simp] theorem eq_t2 {a b a' b' : Int} : eqD (.tuple [.int a, .int b]) (.tuple [.int a', .int b']) = some (.bool (decide (a = a' ∧ b = b'))) := by
  have := eq_tI (xs := [a, b]) (ys := [a', b'])
  simpa [dInts] using this
theorem pl_t3 {n : Nat} {a b c : Int} : pl (n + 2) (.tuple [.int a, .int b, .int c]) = true := (pl_ints (n := n) (ns := [a, b, c]) (by show 3 ≤ 16777216; decide)).2
theorem con_tupI {K : Fg} {mg : Str → Option Value} {h : Heap} {x : Str} {a : Addr} {ns : List Int} {its : Array Value} {n : Nat} {sl : Array (Option Value)} (X : K.K.In h) (G : h.Ns mainGlobals mg)
    (e : PySem.W.nsIn K mainGlobals x = some (some (.ref a))) (l : K.K.lookup a = some ⟨.type "tuple", none, .seq its n, sl⟩) (v : Vals (ns.map V.int) its.toList) (hl : ns.length ≤ 1000) : Con K mg x (.tuple (dInts ns)) := by
  have hv := v.length
  rw [List.length_map] at hv
  have hz : its.size ≤ sizeLine := by
    rw [sizeLine_eq, ← Array.length_toList, ← hv]
    omega
  exact ⟨.ref a, .ref a, PySem.W.mg_of X G e, rfl, fun F => .tup (.inr ⟨_, its, n, l, ⟨rfl, rfl⟩, rfl, hz, v⟩) (by rw [dInts_len, sizeLine_eq]; omega) (Rvs.ofInts ns)⟩
end Mi

namespace Mi
open PySem PySem.Spec L2
theorem rng_snoc' {lo hi : Int} (h : lo ≤ hi) : rng lo (hi + 1) = rng lo hi ++ [hi] := by
  unfold rng
  rw [show (hi + 1 - lo).toNat = (hi - lo).toNat + 1 by omega, List.range_succ, List.map_append]
  congr 1
  simp
  omega
theorem rng_filter_last {p : Int → Bool} {lo hi m : Int} (h1 : lo ≤ m) (h2 : m < hi) (hp : p m = true) (hn : ∀ k, m < k → k < hi → p k = false) : ∃ r, (rng lo hi).filter p = r ++ [m] := by
  have : ∀ (n : Nat) (hi : Int), (hi - m).toNat = n + 1 → (∀ k, m < k → k < hi → p k = false) → ∃ r, (rng lo hi).filter p = r ++ [m] := by
    intro n
    induction n with
    | zero =>
      intro hi e hn
      have : hi = m + 1 := by omega
      subst this
      rw [rng_snoc' h1, List.filter_append]
      exact ⟨_, by simp [hp]; rfl⟩
    | succ n ih =>
      intro hi e hn
      obtain ⟨r, hr⟩ := ih (hi - 1) (by omega) fun k k0 k1 => hn k k0 (by omega)
      have e2 : hi = (hi - 1) + 1 := by omega
      rw [e2, rng_snoc' (by omega), List.filter_append, hr]
      have : p (hi - 1) = false := hn _ (by omega) (by omega)
      exact ⟨r, by simp [this]⟩
  exact this (hi - m - 1).toNat hi (by omega) hn
theorem at_end {α : Type} {r : List α} {a : α} : atI (r ++ [a]) (-1) = some a := by
  have e : ixN (r ++ [a]).length (-1) = some r.length := by
    unfold ixN
    rw [if_neg (by omega), if_pos (by simp only [List.length_append, List.length_cons, List.length_nil]; omega)]
    congr 1
    simp
    omega
  unfold atI
  rw [e]
  show (r ++ [a])[r.length]? = some a
  simp
theorem in_lI {a : Int} {xs : List Int} : inD (.int a) (.list (dInts xs)) = some (.bool (decide (a ∈ xs))) := by
  have h : inB (.int a) (.list (dInts xs)) = some (decide (a ∈ xs)) := by
    have e : ∀ ys : List Int, ((dInts ys).any fun z => PyData.eqv z (.int a)) = decide (a ∈ ys) := by
      intro ys
      induction ys with
      | nil => rfl
      | cons y ys ih =>
        show (PyData.eqv (.int y) (.int a) || (dInts ys).any fun z => PyData.eqv z (.int a)) = _
        rw [ih]
        show ((y == a) || decide (a ∈ ys)) = _
        by_cases h1 : a = y
        · subst h1; simp
        · have : ¬ y = a := fun z => h1 z.symm
          simp [h1, this]
    have := e xs
    rw [← this]
    exact if_pos ⟨rfl, shaped_lI xs⟩
  unfold inD
  rw [h]; rfl
theorem sum_map_rng {f g : Int → Int} {a b : Int} (h : a ≤ b) (hf : ∀ k, a ≤ k → k < b → g (k + 1) = g k + f k) : ((rng a b).map f).sum = g b - g a := by
  have : ∀ (n : Nat) (b : Int), b = a + (n : Int) → (∀ k, a ≤ k → k < b → g (k + 1) = g k + f k) → ((rng a b).map f).sum = g b - g a := by
    intro n
    induction n with
    | zero => intro b e _; have : b = a := by omega
              subst this; rw [rng_nil (Int.le_refl _)]; simp
    | succ n ih =>
      intro b e hf
      have e2 : b = (a + (n : Int)) + 1 := by omega
      rw [e2, rng_snoc' (by omega), List.map_append, List.sum_append, ih _ rfl fun k k0 k1 => hf k k0 (by omega), hf _ (by omega) (by omega)]
      simp
      omega
  exact this (b - a).toNat b (by omega) hf
end Mi

namespace Mi
open PySem PySem.Spec L2
/-! ### xs.index(v), gcd -/
def idxL (ds : List D) (d : D) : Option D := if SeqAt.shaped (.list ds) = true ∧ SeqAt.shaped d = true then (ds.findIdx? fun z => PyData.eqv z d).map fun j => .int (j : Int) else none
def sIdx (ma mc : SE) : SE := fun env Q => ma env fun x => match x with
  | .list ds => mc env fun z => ob (idxL ds z) Q
  | _ => False
section
variable {X : Cx} {b b' : Bool} {a c e o : Expr} {ma mc me : SE} {pos apos cpos npos : Pos}
theorem me_idx (hu : X.A.units + 65 < cLine) (ha : ME X true a ma) (hc : ME X true c mc)
    (hbase : attributeBase a "index" X.env (eval a X.env) = eval a X.env := by rfl)
    (hfew : ((backTo cpos (starEach [c] X.env)).all (fun x => !x.1) && (backToKw cpos (keywordEach [] X.env)).all (fun x => x.1.isSome)
      && decide ([c].length + ([] : List Keyword).length + (if ([] : List Keyword).isEmpty then 0 else 1) < 30)) = true := by rfl)
    (hline : (apos.endLine == cpos.line) = true := by rfl) (hs : starEach [c] X.env = (false, eval c X.env) :: starEach [] X.env := by rfl) (hplain : (backTo cpos (starEach [] X.env)).any (·.1) = false := by rfl) :
    ME X b' (.Call (.Attribute a "index" apos) [c] [] cpos) (sIdx ma mc) := by
  refine ⟨⟨fun pins s σ H Q I h => (pe_bm PySem.F.plainAttrs_list PySem.F.slot_list_index PySem.F.type_list_index (mt_indexD hu) ha.run (pa_cons hc.run pa_nil hs) hbase hfew hline hs hplain).run pins s σ H Q I ?_⟩,
    fun env P Q k h => ha.mono _ _ _ (fun d hd => by cases d <;> first | exact hc.mono _ _ _ (fun _ h2 => ob_mono k h2) hd | exact hd) h⟩
  obtain ⟨y, dr, F, env, re, hm⟩ := h
  refine ⟨y, dr, F, env, re, ha.mono _ _ _ (fun d hd v H1 F1 r1 s1 w1 => ?_) hm⟩
  cases d with
  | list ds =>
    obtain ⟨p, vs, rfl, h1, z1, rv⟩ := w1.list r1
    refine ⟨.inl ⟨rfl, _, SqL.of h1⟩, y, dr, F1, env, r1, hc.mono _ _ _ (fun d2 h2 v2 H2 F2 r2 s2 w2 => ?_) hd⟩
    unfold idxL at h2
    by_cases c1 : SeqAt.shaped (.list ds) = true ∧ SeqAt.shaped d2 = true
    · rw [if_pos c1] at h2
      cases q : ds.findIdx? fun z => PyData.eqv z d2 with
      | none => rw [q] at h2; exact h2.elim
      | some j =>
        rw [q] at h2
        obtain ⟨hj, hp, hn⟩ := List.findIdx?_eq_some_iff_getElem.mp q
        have dl := (w1.mono s2).dp r2 (lay_shaped c1.1)
        have dv := w2.dp r2 (lay_shaped c1.2)
        refine ⟨p, v2, d2, ds, j, ds[j], rfl, rfl, dl, dv, c1.1, c1.2, by simp [hj], hp, fun m z' hm hz => ?_, h2 _ H2 F2 r2 (s1.trans s2) (.inl (.int _))⟩
        have hml : m < ds.length := by omega
        have e : z' = ds[m] := by rw [List.getElem?_eq_getElem hml] at hz; exact (Option.some.inj hz).symm
        rw [e]
        have := hn m hm
        simpa using this
    · rw [if_neg c1] at h2; exact h2.elim
  | _ => exact hd.elim
def gcdD : D → D → Option D
  | .int i, .int j => some (.int (Nat.gcd i.natAbs j.natAbs : Nat))
  | _, _ => none
@[simp] theorem gcd_i {i j : Int} : gcdD (.int i) (.int j) = some (.int (Nat.gcd i.natAbs j.natAbs : Nat)) := rfl
@[simp] theorem u_sIdx {ma mc : SE} {env : En} {Q : D → Prop} : sIdx ma mc env Q = (ma env fun x => match x with | .list ds => mc env fun z => ob (idxL ds z) Q | _ => False) := rfl
theorem me_gcd {p : Pos} {x : Str} (hg : Gl X x) (hm : X.mg x = some (.builtin "math.gcd")) (ha : ME X true a ma) (hc : ME X true c mc) (hdb : (x == ("__debug__" : Str)) = false := by decide)
    (he : starEach [a, c] X.env = (false, eval a X.env) :: starEach [c] X.env := by rfl) (he2 : starEach [c] X.env = (false, eval c X.env) :: starEach [] X.env := by rfl) (hpl : (backTo pos (starEach [c] X.env)).any (·.1) = false := by rfl) :
    ME X b' (.Call (.Name x p) [a, c] [] pos) (sOp gcdD ma mc) := by
  have ok : Ok2 X true gcdD (fun x z H Q => rGcd [x, z] H Q) := by
    intro y dr F env σ H d1 d2 d v1 v2 Q re w1 w2 e k
    unfold gcdD at e
    split at e
    · cases e
      exact ⟨_, _, by rw [w1.int, w2.int], k _ H F re Ex.refl (.int _)⟩
    · cases e
  exact ⟨⟨fun pins s σ H Q I h => (pe_callBfun cr_gcd hg hm (pa_cons ha.run (pa_cons hc.run pa_nil he2) he) hdb he hpl).run pins s σ H Q I (op_red (r := fun x z H Q => rGcd [x, z] H Q) ok ha hc h)⟩, op_mono ha hc⟩
/-- the place of the first equal one in a row of ints -/
theorem idx_ints {xs : List Int} {a : Int} : idxL (dInts xs) (.int a) = (xs.findIdx? fun z => z == a).map fun j => PyData.int (j : Int) := by
  unfold idxL
  rw [if_pos ⟨shaped_lI xs, rfl⟩]
  congr 1
  unfold dInts
  rw [List.findIdx?_map]
  rfl
end
end Mi

namespace Mi
open PySem PySem.Spec L2
/-! ### [x] * n as a new list -/
def sRep (ma mc : SE) : SL := fun env Q => ma env fun x => mc env fun z => match x, z with
  | .list xs, .int k => (-4611686018427387904 ≤ k ∧ k < 4611686018427387904 ∧ xs.length * k.toNat ≤ 16777216) ∧ Q (List.replicate k.toNat xs).flatten
  | _, _ => False
section
variable {X : Cx} {b b' : Bool} {a c e o : Expr} {ma mc me : SE} {pos apos cpos npos : Pos}
theorem rvs_rep {K : Fg} {F : Hp} {xs : List D} {vs : List V} (r : Rvs K F xs vs) : ∀ n : Nat, Rvs K F (List.replicate n xs).flatten (List.replicate n vs).flatten
  | 0 => .nil
  | n + 1 => by
    rw [List.replicate_succ, List.replicate_succ, List.flatten_cons, List.flatten_cons]
    exact r.append (rvs_rep r n)
theorem mf_rep (ha : ME X true a ma) (hc : ME X true c mc) : MF X (.BinOp a .Mult c pos) (sRep ma mc) := by
  refine ⟨⟨fun pins s σ H Q I h => (pe_op op_rep ha.run hc.run).run pins s σ H Q I ?_⟩, fun env P Q k h => ha.mono _ _ _ (fun d h1 => hc.mono _ _ _ (fun d2 h2 => ?_) h1) h⟩
  · obtain ⟨y, dr, F, env, re, hm⟩ := h
    refine ⟨y, dr, F, env, re, ha.mono _ _ _ (fun d1 h1 v1 H1 F1 r1 s1 w1 => ?_) hm⟩
    refine ⟨y, dr, F1, env, r1, hc.mono _ _ _ (fun d2 h2 v2 H2 F2 r2 s2 w2 => ?_) h1⟩
    split at h2
    · rename_i xs k
      obtain ⟨p, vs, rfl, e1, z1, rv⟩ := (w1.mono s2).list r2
      have hl : (List.replicate k.toNat xs).flatten.length = xs.length * k.toNat := by
        rw [List.length_flatten, List.map_replicate, List.sum_replicate_nat, Nat.mul_comm]
      refine ⟨p, k, vs, rfl, w2.int, e1, by have := h2.1; omega, by have := h2.1; omega, by rw [← rv.length, sizeLine_eq]; exact h2.1.2.2, fun q hq => ?_⟩
      exact new_lst r2 (s1.trans s2) hq (rvs_rep rv _) (by rw [hl, sizeLine_eq]; exact h2.1.2.2) h2.2
    · exact h2.elim
  · split at h2
    · exact ⟨h2.1, k _ h2.2⟩
    · exact h2
/-! list(range(..)), tuple(range(..)) -/
theorem rgV_eq (a b : Int) : rgV a b = (rng a b).map V.int := by unfold rgV rng; rw [List.map_map]; rfl
theorem mf_lR1 {p p2 pos2 : Pos} (hcm : X.calm = true) (hg : Gl X "list") (hm : X.mg "list" = none) (hg2 : Gl X "range") (hm2 : X.mg "range" = none) (ha : ME X true a ma) (na : starEach [a] X.env = (false, eval a X.env) :: starEach [] X.env := by rfl)
    (na2 : starEach [.Call (.Name "range" p2) [a] [] pos2] X.env = (false, eval (.Call (.Name "range" p2) [a] [] pos2) X.env) :: starEach [] X.env := by rfl) : MF X (.Call (.Name "list" p) [.Call (.Name "range" p2) [a] [] pos2] [] pos) (iR1 ma) := by
  refine ⟨⟨fun pins s σ H Q I h => (pe_listRg hcm hg hm (prg_1 hg2 hm2 ha.run na) na2).run pins s σ H Q I ?_⟩, fun env P Q k h => ha.mono _ _ _ (fun d hd => by cases d <;> first | exact ⟨hd.1, k _ hd.2⟩ | exact hd) h⟩
  obtain ⟨y, dr, F, env, re, hm⟩ := h
  refine ⟨y, dr, F, env, re, ha.mono _ _ _ (fun d hd v H' F' r1 s1 w => ?_) hm⟩
  cases d with
  | int n =>
    refine ⟨n, w.int, ⟨by omega, by omega, by have := hd.1; omega, by have := hd.1; omega, by have := hd.1; omega⟩, fun q hq => ?_⟩
    rw [rgV_eq]
    exact new_lst r1 s1 hq (Rvs.ofInts _) (by rw [sizeLine_eq]; (try unfold dInts); unfold rng; rw [List.length_map, List.length_map, List.length_range]; have := hd.1; omega) hd.2
  | _ => exact hd.elim
theorem mf_lR2 {p p2 pos2 : Pos} (hcm : X.calm = true) (hg : Gl X "list") (hm : X.mg "list" = none) (hg2 : Gl X "range") (hm2 : X.mg "range" = none) (ha : ME X true a ma) (hc : ME X true c mc) (na : starEach [a, c] X.env = (false, eval a X.env) :: starEach [c] X.env := by rfl)
    (nb : starEach [c] X.env = (false, eval c X.env) :: starEach [] X.env := by rfl) (hp : (backTo pos2 (starEach [c] X.env)).any (·.1) = false := by rfl)
    (na2 : starEach [.Call (.Name "range" p2) [a, c] [] pos2] X.env = (false, eval (.Call (.Name "range" p2) [a, c] [] pos2) X.env) :: starEach [] X.env := by rfl) : MF X (.Call (.Name "list" p) [.Call (.Name "range" p2) [a, c] [] pos2] [] pos) (iR2 ma mc) := by
  refine ⟨⟨fun pins s σ H Q I h => (pe_listRg hcm hg hm (prg_2 hg2 hm2 ha.run hc.run na nb hp) na2).run pins s σ H Q I ?_⟩, fun env P Q k h => ha.mono _ _ _ (fun d hd => hc.mono _ _ _ (fun d' hd' => by cases d <;> cases d' <;> first | exact ⟨hd'.1, k _ hd'.2⟩ | exact hd') hd) h⟩
  obtain ⟨y, dr, F, env, re, hm⟩ := h
  refine ⟨y, dr, F, env, re, ha.mono _ _ _ (fun d hd v H' F' r1 s1 w => ?_) hm⟩
  refine ⟨y, dr, F', env, r1, hc.mono _ _ _ (fun d' hd' v' H2 F2 r2 s2 w' => ?_) hd⟩
  split at hd'
  · rename_i lo hi
    refine ⟨lo, hi, w.int, w'.int, ⟨by have := hd'.1; omega, by have := hd'.1; omega, by have := hd'.1; omega, by have := hd'.1; omega, by have := hd'.1; omega⟩, fun q hq => ?_⟩
    rw [rgV_eq]
    exact new_lst r2 (s1.trans s2) hq (Rvs.ofInts _) (by rw [sizeLine_eq]; (try unfold dInts); unfold rng; rw [List.length_map, List.length_map, List.length_range]; have := hd'.1; omega) hd'.2
  · exact hd'.elim
def sTupR (m : SL) : SE := fun env Q => m env fun xs => Q (.tuple xs)
@[simp] theorem u_sTupR {m : SL} {env : En} {Q : D → Prop} : sTupR m env Q = (m env fun xs => Q (.tuple xs)) := rfl
theorem me_tR1 {p p2 pos2 : Pos} (hcm : X.calm = true) (hg : Gl X "tuple") (hm : X.mg "tuple" = none) (hg2 : Gl X "range") (hm2 : X.mg "range" = none) (ha : ME X true a ma) (na : starEach [a] X.env = (false, eval a X.env) :: starEach [] X.env := by rfl)
    (na2 : starEach [.Call (.Name "range" p2) [a] [] pos2] X.env = (false, eval (.Call (.Name "range" p2) [a] [] pos2) X.env) :: starEach [] X.env := by rfl) : ME X b (.Call (.Name "tuple" p) [.Call (.Name "range" p2) [a] [] pos2] [] pos) (sTupR (iR1 ma)) := by
  refine ⟨⟨fun pins s σ H Q I h => (pe_tupRgP hcm hg hm (prg_1 hg2 hm2 ha.run na) na2).run pins s σ H Q I ?_⟩, fun env P Q k h => ha.mono _ _ _ (fun d hd => by cases d <;> first | exact ⟨hd.1, k _ hd.2⟩ | exact hd) h⟩
  obtain ⟨y, dr, F, env, re, hm⟩ := h
  refine ⟨y, dr, F, env, re, ha.mono _ _ _ (fun d hd v H' F' r1 s1 w => ?_) hm⟩
  cases d with
  | int n =>
    refine ⟨n, w.int, ⟨by omega, by omega, by have := hd.1; omega, by have := hd.1; omega, by have := hd.1; omega⟩, fun q o to hq => ?_⟩
    rw [rgV_eq]
    exact hd.2 _ _ _ (r1.laid hq) (s1.trans (r1.ex hq)) (.inl (Rv.tupNew (r1.nF hq) to (by rw [sizeLine_eq]; (try unfold dInts); unfold rng; rw [List.length_map, List.length_map, List.length_range]; have := hd.1; omega) (Rvs.ofInts _)))
  | _ => exact hd.elim
theorem me_tR2 {p p2 pos2 : Pos} (hcm : X.calm = true) (hg : Gl X "tuple") (hm : X.mg "tuple" = none) (hg2 : Gl X "range") (hm2 : X.mg "range" = none) (ha : ME X true a ma) (hc : ME X true c mc) (na : starEach [a, c] X.env = (false, eval a X.env) :: starEach [c] X.env := by rfl)
    (nb : starEach [c] X.env = (false, eval c X.env) :: starEach [] X.env := by rfl) (hp : (backTo pos2 (starEach [c] X.env)).any (·.1) = false := by rfl)
    (na2 : starEach [.Call (.Name "range" p2) [a, c] [] pos2] X.env = (false, eval (.Call (.Name "range" p2) [a, c] [] pos2) X.env) :: starEach [] X.env := by rfl) : ME X b (.Call (.Name "tuple" p) [.Call (.Name "range" p2) [a, c] [] pos2] [] pos) (sTupR (iR2 ma mc)) := by
  refine ⟨⟨fun pins s σ H Q I h => (pe_tupRgP hcm hg hm (prg_2 hg2 hm2 ha.run hc.run na nb hp) na2).run pins s σ H Q I ?_⟩, fun env P Q k h => ha.mono _ _ _ (fun d hd => hc.mono _ _ _ (fun d' hd' => by cases d <;> cases d' <;> first | exact ⟨hd'.1, k _ hd'.2⟩ | exact hd') hd) h⟩
  obtain ⟨y, dr, F, env, re, hm⟩ := h
  refine ⟨y, dr, F, env, re, ha.mono _ _ _ (fun d hd v H' F' r1 s1 w => ?_) hm⟩
  refine ⟨y, dr, F', env, r1, hc.mono _ _ _ (fun d' hd' v' H2 F2 r2 s2 w' => ?_) hd⟩
  split at hd'
  · rename_i lo hi
    refine ⟨lo, hi, w.int, w'.int, ⟨by have := hd'.1; omega, by have := hd'.1; omega, by have := hd'.1; omega, by have := hd'.1; omega, by have := hd'.1; omega⟩, fun q o to hq => ?_⟩
    rw [rgV_eq]
    exact hd'.2 _ _ _ (r2.laid hq) ((s1.trans s2).trans (r2.ex hq)) (.inl (Rv.tupNew (r2.nF hq) to (by rw [sizeLine_eq]; (try unfold dInts); unfold rng; rw [List.length_map, List.length_map, List.length_range]; have := hd'.1; omega) (Rvs.ofInts _)))
  · exact hd'.elim
@[simp] theorem u_sRep {ma mc : SE} {env : En} {Q : List D → Prop} : sRep ma mc env Q = (ma env fun x => mc env fun z => match x, z with
  | .list xs, .int k => (-4611686018427387904 ≤ k ∧ k < 4611686018427387904 ∧ xs.length * k.toNat ≤ 16777216) ∧ Q (List.replicate k.toNat xs).flatten
  | _, _ => False) := rfl
end
end Mi

namespace Mi
open PySem PySem.Spec L2
/-! ### plain helpers -/
theorem cut_from {α : Type} {xs : List α} {i : Int} (h : 0 ≤ i) : cut xs (some i) none = xs.drop i.toNat := by
  obtain ⟨k, rfl⟩ : ∃ k : Nat, i = (k : Int) := ⟨i.toNat, by omega⟩
  have e1 : HT.sIx xs.length 0 (some (k : Int)) = min k xs.length := HT.sIx_nat xs.length 0 k
  have e2 : HT.sIx xs.length xs.length none = xs.length := HT.sIx_none _ _
  unfold cut
  rw [e1, e2, Int.toNat_natCast]
  by_cases h : k ≤ xs.length
  · rw [show min k xs.length = k by omega, List.take_of_length_le]
    rw [List.length_drop]; omega
  · rw [show min k xs.length = xs.length by omega, List.drop_eq_nil_iff.mpr (Nat.le_refl _), List.drop_eq_nil_iff.mpr (by omega), List.take_nil]
theorem cut_upto {α : Type} {xs : List α} {i : Int} (h : 0 ≤ i) : cut xs none (some i) = xs.take i.toNat := by
  obtain ⟨k, rfl⟩ : ∃ k : Nat, i = (k : Int) := ⟨i.toNat, by omega⟩
  have e1 : HT.sIx xs.length xs.length (some (k : Int)) = min k xs.length := HT.sIx_nat xs.length xs.length k
  have e2 : HT.sIx xs.length 0 none = 0 := HT.sIx_none _ _
  unfold cut
  rw [e1, e2, Int.toNat_natCast]
  by_cases h : k ≤ xs.length
  · rw [show min k xs.length = k by omega]; rfl
  · rw [show min k xs.length = xs.length by omega, List.take_of_length_le (by simp), List.take_of_length_le (by omega)]
    rfl
theorem dI_app (xs ys : List Int) : dInts (xs ++ ys) = dInts xs ++ dInts ys := by unfold dInts; simp
theorem dI_one (xs : List Int) (a : Int) : dInts (xs ++ [a]) = dInts xs ++ [.int a] := by unfold dInts; simp
theorem dI_drop (xs : List Int) (n : Nat) : (dInts xs).drop n = dInts (xs.drop n) := by unfold dInts; simp
theorem dI_take (xs : List Int) (n : Nat) : (dInts xs).take n = dInts (xs.take n) := by unfold dInts; simp
theorem sum_dI {ns : List Int} : sumD (.list (dInts ns)) = some (.int ns.sum) := by
  unfold sumD dInts
  show (intsOf _).map _ = _
  rw [intsOf_map]
  rfl
theorem sum_dIt {ns : List Int} : sumD (.tuple (dInts ns)) = some (.int ns.sum) := by
  unfold sumD dInts
  show (intsOf _).map _ = _
  rw [intsOf_map]
  rfl
theorem at4 {α : Type} {a b c d e : α} {l : List α} : atI (a :: b :: c :: d :: e :: l) 4 = some e := at_some (j := 4) rfl rfl
theorem at5 {α : Type} {a b c d e f : α} {l : List α} : atI (a :: b :: c :: d :: e :: f :: l) 5 = some f := at_some (j := 5) rfl rfl
theorem at6 {α : Type} {a b c d e f g : α} {l : List α} : atI (a :: b :: c :: d :: e :: f :: g :: l) 6 = some g := at_some (j := 6) rfl rfl
theorem enum_get {k : Int} {xs : List D} {i : Nat} {d : D} (h : (enumL k xs)[i]? = some d) : ∃ e, xs[i]? = some e ∧ d = .tuple [.int (k + (i : Int)), e] := by
  have hl := (List.getElem?_eq_some_iff.mp h).1
  rw [enumL_len] at hl
  have := enumL_get k xs i xs[i] (by simp [hl])
  rw [h] at this
  cases this
  exact ⟨_, by simp [hl], rfl⟩
theorem dI_get {ns : List Int} {i : Nat} {d : D} (h : (dInts ns)[i]? = some d) : ∃ hi : i < ns.length, d = .int ns[i] := by
  have hl := (List.getElem?_eq_some_iff.mp h).1
  rw [dInts_len] at hl
  rw [dInts_get hl] at h
  cases h
  exact ⟨hl, rfl⟩
def nth (ns : List Int) (i : Nat) : Int := ns.getD i 0
theorem nth_eq {ns : List Int} {i : Nat} (h : i < ns.length) : nth ns i = ns[i] := by
  unfold nth
  rw [List.getD_eq_getElem?_getD, List.getElem?_eq_getElem h]
  rfl
theorem at_nth {ns : List Int} {i : Int} (h0 : 0 ≤ i) (h : i < ns.length) : atI (dInts ns) i = some (.int (nth ns i.toNat)) := by
  rw [at_dInts h0 h, nth_eq (by omega)]
theorem at_nthN {ns : List Int} {i : Nat} (h : i < ns.length) : atI (dInts ns) (i : Int) = some (.int (nth ns i)) := at_nth (by omega) (by omega)
theorem isort_perm (ns : List Int) : (isort ns).Perm ns := List.mergeSort_perm _ _
end Mi

namespace Mi
open PySem PySem.Spec L2
/-! ### set(xs) of a list of ints -/
abbrev eSet (w : World) : Obj :=
  { cls := .type "set", dict := none, data := .set #[] 0 (.fresh 0 0 (!w.params.followText "set-order")) }
open PyProof.Rows in
set_option maxHeartbeats 3200000 in
theorem set_listI {P : Program} {w : World} {A : Around} {E : Value → Shared → Prop} {s : Shared} {l : Addr} {its : Array Value} (ns : List Int) {Q : Value → Shared → Prop} (hh : A.handled = none) (hl : s.heap.IsList l its) (hi : IntsAre its.toList ns) (hb : ns.length + 1 < scanBound)
    (h : ∀ (h' : Heap) (tk c : Nat), SetR w h' s.heap.objs.size (fun j => decide (j ∈ ns)) c → c ≤ ns.length → (∀ b o, s.heap.get? b = some o → h'.get? b = some o) → Q (.ref s.heap.objs.size) { s with heap := h', toks := tk }) :
    wpAny (model P w) A (call (.type "set") [.ref l]) Q E s := by
  have hsz : its.size = ns.length := by
    rw [← hi.length, Array.length_toList]
  obtain ⟨c, tl, hmro⟩ := F.called_set.mro
  have m1 := F.called_set.made
  have m2 := F.called_set.sub
  have m3 := F.called_set.notType
  have m4 := F.called_set.canCreate
  have m5 := F.typeCall_set_1 (.ref l)
  apply wpAny_call
  apply codeAny_of_tree
  show wpAny _ _ (callAny (.type "set")
    _) _ _ _
  apply wpAny_pure
  refine ⟨Code.quiet_builtin _ (by decide +kernel), ?_⟩
  apply codeAny_builtin F.entry_type_call
  rw [Around.under_plain
    (weight_type_call_type "set" [.ref l] []) rfl]
  repeat (any_goals (first | assumption | wp_step))
  refine codeAny_mono (code_set_led1 (.ref l) (E := E) (Q₁ := fun obj s₁ => obj = .ref s.heap.objs.size ∧ s₁ = { s with heap := s.heap.push (eSet w) }) ⟨rfl, rfl⟩) ?_
  intro r s₁ hr
  cases r with
  | error e => exact hr
  | ok fl =>
    cases fl with
    | ret obj =>
      obtain ⟨rfl, rfl⟩ := hr
      have hS : (s.heap.push (eSet w)).get? s.heap.objs.size = some (eSet w) := Heap.get?_push_size _ rfl
      have hT : Shared.TypeIs { s with heap := s.heap.push (eSet w) } (.ref s.heap.objs.size) "set" := ⟨_, hS, rfl⟩
      have m6 := F.called_set.init.lookup
      have m7 := F.called_set.init.bind (.ref s.heap.objs.size)
      repeat (any_goals (first | assumption | wp_step))
      refine codeAny_mono (codeAny_call_builtin (R := wants (fun r s₂ => r = .none ∧ ∃ h' tk c, s₂ = { s with heap := h', toks := tk } ∧ SetR w h' s.heap.objs.size (fun j => decide (j ∈ ns)) c ∧ c ≤ ns.length ∧ (∀ b o, s.heap.get? b = some o → h'.get? b = some o)) E) F.called_set.init.plain F.entry_set_init (check_set_init_1 hT ?_)) ?_
      · obtain ⟨ol, hol, hcl, nl, hdl⟩ := hl
        obtain ⟨oc, od, odt, osl⟩ := ol
        simp only at hcl hdl
        subst hcl
        subst hdl
        have hl0 : (s.heap.push (eSet w)).get? l = some { cls := .type "list", dict := od, data := .seq its nl, slots := osl } := Heap.get?_push_of_some _ hol
        have n1 := F.sub_list_set
        have n2 := F.sub_list_frozenset
        have n3 : (Value.type "list" == Value.type "dict") = false := by decide
        have hl1 : (s.heap.push (eSet w)).IsList l its := ⟨_, hl0, rfl, nl, rfl⟩
        unfold Builtin.«set.__init__»
        unfold noKeywords
        unfold Builtin.Frozenset.updateFrom
        generalize hPI : pyIter = PI
        wp_walk
        subst hPI
        apply wpAny_pyIter_list hl1
        apply wpAny_bind
        apply wpAny_runValue
        have p1 : l < s.heap.objs.size := Heap.lt_size hol
        have p2 : A.in1.in1.in1.handled = none := by simp [hh]
        have p3 : (s.heap.push (eSet w)).objs.size = s.heap.objs.size + 1 := Heap.size_push ..
        have p4 : l ≠ (s.heap.push (eSet w)).objs.size := by rw [p3]; exact Nat.ne_of_lt (Nat.lt_succ_of_lt p1)
        have p5 : s.heap.objs.size ∉ [(s.heap.push (eSet w)).objs.size, l] := by
          rw [p3]
          intro z
          rcases List.mem_cons.mp z with z | z
          · exact Nat.ne_of_lt (Nat.lt_succ_self _) z
          · exact Nat.ne_of_gt p1 (List.mem_singleton.mp z)
        have p6 : ∀ (i : Nat) (v : Value), its[i]? = some v → ∃ k t, ns[i]? = some k ∧ v = .int k t := fun i v hv => by
          have hin : i < ns.length := by rw [← hsz]; exact (Array.getElem?_eq_some_iff.mp hv).1
          obtain ⟨t, e⟩ := IntsAre.int_at hi i v (by rw [Array.getElem?_toList]; exact hv)
          rw [List.getD_eq_getElem?_getD, List.getElem?_eq_getElem hin] at e
          exact ⟨ns[i], t, List.getElem?_eq_getElem hin, e⟩
        refine set_update_ints ((Walks.list p2 _ l p4 its).toS) s.heap.objs.size p5 ns hsz hb p6 (its.size - 0) 0 _ (by omega) (Nat.zero_le _) ⟨⟨_, Heap.get?_push_size _ rfl, rfl, rfl⟩, hl1.push _⟩ ⟨0, Nat.le_refl 0, setR_new_at (Heap.get?_push_of_some _ hS)⟩ ?_
        rintro ⟨h', g2, d', tk', os'⟩ c' hm hc' hS'
        have eg : g2 = s.gens := hm.gens
        have ed : d' = s.drawn := hm.drawn
        have eo : os' = s.os := hm.os
        subst eg ed eo
        show wpAny _ _ _ _ _ _
        apply wpAny_pure
        show wpAny _ _ (ret Value.none)
          _ _ _
        refine wpAny_pure ⟨rfl, h', tk', c', rfl, hS', by omega, fun b o e => ?_⟩
        have b0 : b < s.heap.objs.size := Heap.lt_size e
        refine hm.heap b o (fun z => ?_) (Heap.get?_push_of_some _ (Heap.get?_push_of_some _ e))
        rcases List.mem_cons.mp z with z | z
        · exact Nat.ne_of_lt b0 z
        · rw [p3] at z
          exact Nat.ne_of_lt (Nat.lt_succ_of_lt b0) (List.mem_singleton.mp z)
      · intro r₂ s₂ hr₂
        cases r₂ with
        | error e => exact hr₂
        | ok fl₂ =>
          cases fl₂ with
          | ret r =>
            obtain ⟨rfl, h', tk, c, rfl, hS', hc', hk'⟩ := hr₂
            repeat (any_goals (first | assumption | wp_step))
            exact h _ _ c hS' hc' hk'
          | _ => exact hr₂.elim
    | _ => exact hr.elim
end Mi

namespace Mi
open PySem PySem.Spec L2
/-! ### sorted(set(xs)), len(set(xs)) of a list of ints -/
/-- the members of a row of ints, once each, rising -/
def dd : List Int → List Int
  | [] => []
  | x :: r => if x ∈ r then dd r else x :: dd r
theorem dd_mem : ∀ {ns : List Int} {a : Int}, a ∈ dd ns ↔ a ∈ ns
  | [], a => Iff.rfl
  | x :: r, a => by
    unfold dd
    have ih := dd_mem (ns := r) (a := a)
    split
    · rename_i h
      rw [ih, List.mem_cons]
      exact ⟨.inr, fun z => z.elim (fun e => e ▸ h) id⟩
    · rw [List.mem_cons, List.mem_cons, ih]
theorem dd_nodup : ∀ (ns : List Int), (dd ns).Nodup
  | [] => .nil
  | x :: r => by
    unfold dd
    split
    · exact dd_nodup r
    · rename_i h
      exact List.nodup_cons.mpr ⟨fun z => h (dd_mem.mp z), dd_nodup r⟩
theorem dd_len : ∀ (ns : List Int), (dd ns).length ≤ ns.length
  | [] => Nat.le_refl _
  | x :: r => by
    unfold dd
    have := dd_len r
    split <;> simp only [List.length_cons] <;> omega
def usort (ns : List Int) : List Int := isort (dd ns)
theorem usort_mem {ns : List Int} {a : Int} : a ∈ usort ns ↔ a ∈ ns := by
  unfold usort
  rw [isort_mem, dd_mem]
theorem lt_uniq : ∀ {xs ys : List Int}, xs.Pairwise (· < ·) → ys.Pairwise (· < ·) → (∀ a, a ∈ xs ↔ a ∈ ys) → xs = ys
  | [], [], _, _, _ => rfl
  | [], y :: ys, _, _, h => by have := (h y).mpr (by simp); cases this
  | x :: xs, [], _, _, h => by have := (h x).mp (by simp); cases this
  | x :: xs, y :: ys, h1, h2, h => by
    rw [List.pairwise_cons] at h1 h2
    have e : x = y := by
      have a1 := (h x).mp (by simp)
      have a2 := (h y).mpr (by simp)
      rcases List.mem_cons.mp a1 with z | z
      · exact z
      · rcases List.mem_cons.mp a2 with z2 | z2
        · exact z2.symm
        · have := h1.1 y z2
          have := h2.1 x z
          omega
    subst e
    rw [lt_uniq h1.2 h2.2 fun a => ?_]
    constructor
    · intro z
      rcases List.mem_cons.mp ((h a).mp (by simp [z])) with q | q
      · have := h1.1 a z; omega
      · exact q
    · intro z
      rcases List.mem_cons.mp ((h a).mpr (by simp [z])) with q | q
      · have := h2.1 a z; omega
      · exact q
theorem lt_of_le_nd : ∀ {xs : List Int}, xs.Pairwise (· ≤ ·) → xs.Nodup → xs.Pairwise (· < ·)
  | [], _, _ => .nil
  | x :: xs, h, hn => by
    rw [List.pairwise_cons] at h
    rw [List.nodup_cons] at hn
    refine List.pairwise_cons.mpr ⟨fun a ha => ?_, lt_of_le_nd h.2 hn.2⟩
    have := h.1 a ha
    have : a ≠ x := fun z => hn.1 (z ▸ ha)
    omega
theorem usort_lt (ns : List Int) : (usort ns).Pairwise (· < ·) := by
  refine lt_of_le_nd (isort_sorted _) ?_
  exact (isort_perm _).nodup_iff.mpr (dd_nodup ns)
theorem usort_len (ns : List Int) : (usort ns).length ≤ ns.length := by
  unfold usort
  rw [isort_len]
  exact dd_len ns
def rSetOfL (X : Cx) : List V → Hp → VK → Prop := fun xs H Q => ∃ (a : Addr) (ns : List Int), xs = [.ref a] ∧ SqL X.G H a (ns.map V.int) ∧ ns.length ≤ 1000 ∧
  ∀ p, H p = none → Q (.ref p) (upd H p (SetO X.w p (fun j => decide (j ∈ ns)) (usort ns).length))
theorem setR_count {w : World} {h : Heap} {a : Addr} {ns : List Int} {c : Nat} (R : SetR w h a (fun j => decide (j ∈ ns)) c) : c = (usort ns).length := by
  obtain ⟨o, es, ep, t, _, _, _, _, nd, hm, _, _, hn, _, _⟩ := R
  have hu : (usort ns).Nodup := (usort_lt ns).imp fun h => by omega
  have hp : (es.toList.map keyOf).Perm (usort ns) := (List.perm_ext_iff_of_nodup nd hu).mpr fun k => by
    rw [← hm k, decide_eq_true_eq, usort_mem]
  have := hp.length_eq
  rw [List.length_map, Array.length_toList] at this
  omega
theorem cr_setL {X : Cx} (hc : X.calm = true) : CallR X (.type "set") (rSetOfL X) := by
  intro pins s σ H vs us Q I r h
  obtain ⟨a, ns, rfl, hs, hz, q⟩ := h
  obtain ⟨its, rv, hl, _⟩ := I.list hs
  rw [Vals.ref1 r]
  refine set_listI ns (I.ok.hd hc) hl.isList (by simpa using rv.ints) (by unfold scanBound; omega) fun h' tk c R hc k => ?_
  have e := setR_count R
  subst e
  exact ⟨.ref _, _, I.laid (t' := tk) k (Nat.le_refl _) (setO_new R), rfl, q _ (I.hok.fresh (Nat.le_refl _))⟩
def obI (o : Option (List Int)) (Q : List Int → Prop) : Prop := match o with
  | some d => Q d
  | none => False
theorem obI_mono {o : Option (List Int)} {P Q : List Int → Prop} (h : ∀ d, P d → Q d) (k : obI o P) : obI o Q := by
  cases o with
  | none => exact k
  | some d => exact h _ k
/-- the ints of a list -/
def lsI : D → Option (List Int)
  | .list xs => intsOf xs
  | _ => none
theorem lsI_l (ns : List Int) : lsI (.list (dInts ns)) = some ns := intsOf_map ns
def sSrtSet (m : SE) : SL := fun env Q => m env fun d => obI (lsI d) fun ns => (ns.length ≤ 1000 ∧ (usort ns).length < 64) ∧ Q (dInts (usort ns))
section
variable {X : Cx} {b b' : Bool} {a c e o : Expr} {ma mc me : SE} {pos apos cpos npos : Pos}
theorem lsI_eq {d : D} {ns : List Int} (h : lsI d = some ns) : d = .list (dInts ns) := by
  cases d with
  | list xs => rw [intsOf_eq h]; rfl
  | _ => cases h
theorem mf_srtSet {p p2 pos2 : Pos} (hc : X.calm = true) (hg : Gl X "sorted") (hm : X.mg "sorted" = none) (hg2 : Gl X "set") (hm2 : X.mg "set" = none) (ha : ME X true a ma) (he : starEach [a] X.env = (false, eval a X.env) :: starEach [] X.env := by rfl) (hpl : (backTo pos2 (starEach [] X.env)).any (·.1) = false := by rfl)
    (he2 : starEach [Expr.Call (.Name "set" p2) [a] [] pos2] X.env = (false, eval (Expr.Call (.Name "set" p2) [a] [] pos2) X.env) :: starEach [] X.env := by rfl) (hpl2 : (backTo pos (starEach [] X.env)).any (·.1) = false := by rfl) :
    MF X (.Call (.Name "sorted" p) [.Call (.Name "set" p2) [a] [] pos2] [] pos) (sSrtSet ma) := by
  have p1 := pe_callTy (p := p2) (pos := pos2) (cr_setL hc) hg2 hm2 (by decide +kernel) (pa_cons ha.run pa_nil he) (by decide) (by decide) he hpl
  refine ⟨⟨fun pins s σ H Q I hq => (pe_callB (cr_sortedSet hc) hg hm (by decide +kernel) (pa_cons p1 pa_nil he2) (by decide) (by decide) he2 hpl2).run pins s σ H Q I ?_⟩, fun env P Q k hp => ha.mono _ _ _ (fun d h1 => obI_mono (fun ns h => ⟨h.1, k _ h.2⟩) h1) hp⟩
  obtain ⟨y, dr, F, env, re, hm⟩ := hq
  refine ⟨y, dr, F, env, re, ha.mono _ _ _ (fun d1 h1 v1 H1 F1 r1 s1 w1 => ?_) hm⟩
  cases q : lsI d1 with
  | none => rw [q] at h1; exact h1.elim
  | some ns =>
    rw [q] at h1
    obtain ⟨hl, h1⟩ := h1
    have e := lsI_eq q
    subst e
    obtain ⟨a1, vs, rfl, e1, z1, rv⟩ := w1.list r1
    rw [rv.ints] at e1
    refine ⟨a1, ns, rfl, SqL.of e1, hl.1, fun p hp => ?_⟩
    refine ⟨p, _, _, rfl, upd_same, hl.2, fun ns' p' o1 o2 o3 hp' => ?_⟩
    have e2 : ns' = usort ns := lt_uniq o1 (usort_lt ns) fun k => by rw [o2, usort_mem]; simp
    subst e2
    have hz : (dInts (usort ns)).length ≤ sizeLine := by
      have := usort_len ns
      rw [dInts_len, sizeLine_eq]; omega
    exact new_lst (r1.grown hp) (s1.trans (Ex.grown hp)) hp' (Rvs.ofInts _) hz h1
@[simp] theorem u_sSrtSet {m : SE} {env : En} {Q : List D → Prop} : sSrtSet m env Q = (m env fun d => obI (lsI d) fun ns => (ns.length ≤ 1000 ∧ (usort ns).length < 64) ∧ Q (dInts (usort ns))) := rfl
@[simp] theorem obI_s {ns : List Int} {Q : List Int → Prop} : obI (some ns) Q = Q ns := rfl
end
end Mi

namespace Mi
open PySem PySem.Spec L2
/-! ### dicts of ints and texts, as data -/
def keyOf : D → Option Key
  | .int i => some (.inl i)
  | .str s => some (.inr s)
  | _ => none
theorem keyOf_kD (k : Key) : keyOf (kD k) = some k := by cases k <;> rfl
theorem keyOf_eq {d : D} {k : Key} (h : keyOf d = some k) : d = kD k := by
  cases d with
  | int i => cases h; rfl
  | str i => cases h; rfl
  | _ => cases h
theorem kD_inj {k k' : Key} (h : kD k = kD k') : k = k' := by
  have := congrArg keyOf h
  rw [keyOf_kD, keyOf_kD] at this
  exact Option.some.inj this
def asKs : List (D × D) → Option (List (Key × D))
  | [] => some []
  | (k, d) :: r => (keyOf k).bind fun k => (asKs r).map fun l => (k, d) :: l
/-- a locked dict's mark -/
def unmk : List (D × D) → List (D × D)
  | (.bool true, .none) :: r => r
  | r => r
def asK : D → Option (List (Key × D))
  | .dict kvs => asKs (unmk kvs)
  | _ => none
theorem unmk_kd : ∀ kvs : List (Key × D), unmk (kdD kvs) = kdD kvs
  | [] => rfl
  | (.inl _, _) :: _ => rfl
  | (.inr _, _) :: _ => rfl
theorem unmk_rks {K : Fg} {F : Hp} {kvs : List (D × D)} {kws : List (Key × V)} (r : Rks K F kvs kws) : unmk kvs = kvs := by
  cases r with
  | nil => rfl
  | cons a b => rename_i k d ds v vs; cases k <;> rfl
theorem asKs_kd : ∀ (kvs : List (Key × D)), asKs (kdD kvs) = some kvs
  | [] => rfl
  | (k, d) :: r => by
    show (keyOf (kD k)).bind _ = _
    rw [keyOf_kD]
    show (asKs (kdD r)).map _ = _
    rw [asKs_kd r]; rfl
@[simp] theorem asK_kd (kvs : List (Key × D)) : asK (.dict (kdD kvs)) = some kvs := by
  show asKs (unmk (kdD kvs)) = _
  rw [unmk_kd, asKs_kd]
@[simp] theorem asK_lk (kvs : List (Key × D)) : asK (.dict ((.bool true, .none) :: kdD kvs)) = some kvs := asKs_kd kvs
theorem asKs_eq : ∀ {xs : List (D × D)} {kvs : List (Key × D)}, asKs xs = some kvs → xs = kdD kvs
  | [], kvs, h => by cases h; rfl
  | (k, d) :: r, kvs, h => by
    have h : (keyOf k).bind (fun k => (asKs r).map fun l => (k, d) :: l) = some kvs := h
    cases q : keyOf k with
    | none => rw [q] at h; cases h
    | some k' =>
      rw [q] at h
      have h : (asKs r).map (fun l => (k', d) :: l) = some kvs := h
      cases q2 : asKs r with
      | none => rw [q2] at h; cases h
      | some l =>
        rw [q2] at h; cases h
        rw [asKs_eq q2, keyOf_eq q]; rfl
theorem asKs_mark {r : List (D × D)} : asKs ((.none, .none) :: r) = none := rfl
def getG {β : Type} (kvs : List (Key × β)) (k : Key) : Option β := (kvs.find? fun p => decide (p.1 = k)).map (·.2)
def putG {β : Type} (kvs : List (Key × β)) (k : Key) (v : β) : List (Key × β) :=
  if (kvs.any fun p => decide (p.1 = k)) = true then kvs.map (fun p => if p.1 = k then (p.1, v) else p) else kvs ++ [(k, v)]
theorem rks_inv {K : Fg} {F : Hp} {x d : D} {ds : List (D × D)} {kws : List (Key × V)} (h : Rks K F ((x, d) :: ds) kws) : ∃ k v vs, x = kD k ∧ kws = (k, v) :: vs ∧ Rv K F d v ∧ Rks K F ds vs := by
  cases h with
  | cons a b => exact ⟨_, _, _, rfl, rfl, a, b⟩
theorem rks_len {K : Fg} {F : Hp} : ∀ {kvs : List (Key × D)} {kws : List (Key × V)}, Rks K F (kdD kvs) kws → kws.length = kvs.length
  | [], kws, h => by cases h; rfl
  | (k, d) :: r, kws, h => by
    obtain ⟨k', v, vs, e, rfl, a, b⟩ := rks_inv h
    simp only [List.length_cons, rks_len b]
theorem rks_keys {K : Fg} {F : Hp} : ∀ {kvs : List (Key × D)} {kws : List (Key × V)}, Rks K F (kdD kvs) kws → kws.map (·.1) = kvs.map (·.1)
  | [], kws, h => by cases h; rfl
  | (k, d) :: r, kws, h => by
    obtain ⟨k', v, vs, e, rfl, a, b⟩ := rks_inv h
    rw [List.map_cons, List.map_cons, rks_keys b, kD_inj e]
theorem rks_get {K : Fg} {F : Hp} (k : Key) : ∀ {kvs : List (Key × D)} {kws : List (Key × V)}, Rks K F (kdD kvs) kws → (∃ d v, getG kvs k = some d ∧ valV kws k = some v ∧ Rv K F d v) ∨ (getG kvs k = none ∧ valV kws k = none)
  | [], kws, h => by cases h; exact .inr ⟨rfl, rfl⟩
  | (k0, d) :: r, kws, h => by
    obtain ⟨k', v, vs, e, rfl, a, b⟩ := rks_inv h
    have e := kD_inj e
    subst e
    by_cases c : k0 = k
    · refine .inl ⟨d, v, ?_, ?_, a⟩
      · simp [getG, c]
      · simp [valV, c]
    · rcases rks_get k b with ⟨d', v', h1, h2, h3⟩ | ⟨h1, h2⟩
      · refine .inl ⟨d', v', ?_, ?_, h3⟩
        · simpa [getG, c] using h1
        · simpa [valV, c] using h2
      · refine .inr ⟨?_, ?_⟩
        · simpa [getG, c] using h1
        · simpa [valV, c] using h2
theorem rks_any {K : Fg} {F : Hp} (k : Key) : ∀ {kvs : List (Key × D)} {kws : List (Key × V)}, Rks K F (kdD kvs) kws → (kws.any fun p => decide (p.1 = k)) = kvs.any fun p => decide (p.1 = k)
  | [], kws, h => by cases h; rfl
  | (k0, d) :: r, kws, h => by
    obtain ⟨k', v, vs, e, rfl, a, b⟩ := rks_inv h
    have e := kD_inj e
    subst e
    rw [List.any_cons, List.any_cons, rks_any k b]
theorem rks_map {K : Fg} {F : Hp} (k : Key) {d : D} {v : V} (rv : Rv K F d v) : ∀ {kvs : List (Key × D)} {kws : List (Key × V)}, Rks K F (kdD kvs) kws → Rks K F (kdD (kvs.map fun p => if p.1 = k then (p.1, d) else p)) (kws.map fun p => if p.1 = k then (p.1, v) else p)
  | [], kws, h => by cases h; exact .nil
  | (k0, d0) :: r, kws, h => by
    obtain ⟨k', v', vs, e, rfl, a, b⟩ := rks_inv h
    have e := kD_inj e
    subst e
    rw [List.map_cons, List.map_cons]
    by_cases c : k0 = k
    · rw [if_pos c, if_pos c]; exact .cons rv (rks_map k rv b)
    · rw [if_neg c, if_neg c]; exact .cons a (rks_map k rv b)
theorem rks_app {K : Fg} {F : Hp} (k : Key) {d : D} {v : V} (rv : Rv K F d v) : ∀ {kvs : List (Key × D)} {kws : List (Key × V)}, Rks K F (kdD kvs) kws → Rks K F (kdD (kvs ++ [(k, d)])) (kws ++ [(k, v)])
  | [], kws, h => by cases h; exact .cons rv .nil
  | (k0, d0) :: r, kws, h => by
    obtain ⟨k', v', vs, e, rfl, a, b⟩ := rks_inv h
    have e := kD_inj e
    subst e
    exact .cons a (rks_app k rv b)
theorem rks_put {K : Fg} {F : Hp} {k : Key} {d : D} {v : V} (rv : Rv K F d v) {kvs : List (Key × D)} {kws : List (Key × V)} (h : Rks K F (kdD kvs) kws) : Rks K F (kdD (putG kvs k d)) (putK kws k v) := by
  unfold putG putK
  rw [rks_any k h]
  split
  · exact rks_map k rv h
  · exact rks_app k rv h
theorem keyV (k : Key) {K : Fg} {b : Bool} {F : Hp} {env : En} {σ : L2.St} {d : D} {v : V} (h : keyOf d = some k) (w : Vr K b F env σ d v) : v = kV k := by
  cases d with
  | int i => cases h; exact w.int
  | str s => cases h; exact w.str.1
  | _ => cases h
section
variable {X : Cx} {b : Bool} {K : Fg} {y : Cy} {dr : Option Addr} {F H : Hp} {env : En} {σ : L2.St}
theorem Vr.asK (re : Re K y dr F env σ H) {d : D} {kvs : List (Key × D)} {v : V} (w : Vr K b F env σ d v) (h : asK d = some kvs) : ∃ a kws, v = .ref a ∧ Rd H a (.dK kws) ∧ Rks K F (kdD kvs) kws := by
  rcases w with w | ⟨_, i, s, e1, e2, e3⟩
  · cases w with
    | dic q r =>
      have h : asKs (unmk _) = some kvs := h
      rw [unmk_rks r] at h
      rw [asKs_eq h] at r; exact ⟨_, _, rfl, rd_mono re.rf.sub q, r⟩
    | dil q r =>
      rename_i kvs2 _
      have h : asKs kvs2 = some kvs := h
      rw [asKs_eq h] at r; exact ⟨_, _, rfl, .inr ⟨_, re.rf.sub _ _ q⟩, r⟩
    | dit q r => cases h
    | _ => cases h
  · obtain ⟨o, q1, q2⟩ := re.get e1
    cases s with
    | k zs =>
      cases e2
      obtain ⟨a, kws, h1, h2, h3, _⟩ := q2
      rw [e3] at q1; cases q1
      cases h1
      have : zs = kvs := by
        have h : asKs (unmk (kdD zs)) = some kvs := h
        rw [unmk_kd, asKs_kd] at h
        exact Option.some.inj h
      subst this
      exact ⟨a, kws, rfl, .inl h2, h3⟩
    | t zs => cases e2; cases h
    | l zs => cases e2; cases h
    | _ => cases e2
/-- an own object is changed in place -/
theorem Re.setO (re : Re K y dr F env σ H) {i : Nat} {s s' : Sl} {p : Addr} {ob : HO} (h1 : env[i]? = some s) (w0 : s.own = true) (w1 : s'.own = true) (h2 : σ[i]? = some (some (.ref p)))
    (hs : F p = none → y.H0 p = none → some p ≠ dr → SlOk K y dr F (upd H p ob) (some (.ref p)) s') : Re K y dr F (env.set i s') σ (upd H p ob) := by
  obtain ⟨a, e1, _, e3, e4, e5⟩ := (re.slot i _ _ h1 h2).there w0
  cases e1
  have kp : ∀ b, b ≠ p → upd H p ob b = H b := fun b hb => upd_ne hb
  have hdr : ∀ a, dr = some a → a ≠ p := fun a e z => e5 (by rw [← z]; exact e.symm)
  refine ⟨⟨fun b u e => ?_, re.rf.sup, re.rf.new, fun b u e n => ?_, fun b hb => ?_, fun b hb => ?_, re.rf.drs, re.rf.drn⟩, by rw [List.length_set]; exact re.len, fun j s2 o g1 g2 => ?_, fun j l a s1 s2 g1 g2 o1 o2 g3 g4 => ?_⟩
  · have hb : b ≠ p := fun z => by rw [z, e3] at e; cases e
    rw [kp b hb]; exact re.rf.sub b u e
  · have hb : b ≠ p := fun z => by rw [z, e4] at e; cases e
    rw [kp b hb]; exact re.rf.gr b u e n
  · have hbp : b ≠ p := fun z => by rw [z, e4] at hb; exact hb rfl
    rw [kp b hbp]; exact re.rf.dom b hb
  · obtain ⟨q1, q2⟩ := re.rf.drw b hb
    exact ⟨q1, q2.at (kp b (hdr b hb))⟩
  · rcases own_of_get g1 with ⟨rfl, rfl⟩ | ⟨ne, g1⟩
    · rw [h2] at g2; cases g2
      exact hs e3 e4 e5
    · refine (re.slot j s2 o g1 g2).keep (Same.refl _) fun a ha w => ?_
      obtain ⟨c, w1, _, w3, w4, _⟩ := (re.slot j s2 o g1 g2).there w
      rw [ha] at w1; cases w1
      have : a ≠ p := fun z => by
        subst z
        exact ne (re.sep j i a s2 _ g1 h1 w w0 (by rw [g2, ha]) h2)
      exact ⟨kp a this, w3, w4⟩
  · have back : ∀ {m : Nat} {s2 : Sl}, (env.set i s')[m]? = some s2 → s2.own = true → ∃ s3, env[m]? = some s3 ∧ s3.own = true := fun {m s2} g w => by
      rcases own_of_get g with ⟨rfl, rfl⟩ | ⟨_, g⟩
      · exact ⟨_, h1, w0⟩
      · exact ⟨_, g, w⟩
    obtain ⟨t1, u1, v1⟩ := back g1 o1
    obtain ⟨t2, u2, v2⟩ := back g2 o2
    exact re.sep j l a t1 t2 u1 u2 v1 v2 g3 g4
end
def obK (o : Option (List (Key × D))) (Q : List (Key × D) → Prop) : Prop := match o with
  | some d => Q d
  | none => False
def obY (o : Option Key) (Q : Key → Prop) : Prop := match o with
  | some d => Q d
  | none => False
theorem obK_mono {o : Option (List (Key × D))} {P Q : List (Key × D) → Prop} (h : ∀ d, P d → Q d) (k : obK o P) : obK o Q := by
  cases o with
  | none => exact k
  | some d => exact h _ k
theorem obY_mono {o : Option Key} {P Q : Key → Prop} (h : ∀ d, P d → Q d) (k : obY o P) : obY o Q := by
  cases o with
  | none => exact k
  | some d => exact h _ k
@[simp] theorem obK_s {ns : List (Key × D)} {Q : List (Key × D) → Prop} : obK (some ns) Q = Q ns := rfl
@[simp] theorem obY_s {k : Key} {Q : Key → Prop} : obY (some k) Q = Q k := rfl
@[simp] theorem keyOf_i {i : Int} : keyOf (.int i) = some (.inl i) := rfl
@[simp] theorem keyOf_s {i : Str} : keyOf (.str i) = some (.inr i) := rfl
/-- d[k] -/
def sDix (mo mi : SE) : SE := fun env Q => mo env fun x => obK (asK x) fun kvs => mi env fun z => obY (keyOf z) fun k => ob (getG kvs k) Q
/-- d.get(k, v) -/
def sDget (mo mi mv : SE) : SE := fun env Q => mo env fun x => obK (asK x) fun kvs => mi env fun z => mv env fun u => obY (keyOf z) fun k => Q ((getG kvs k).getD u)
/-- d[k] = v -/
def ownK (env : En) (i : Nat) (P : List (Key × D) → Prop) : Prop := match gv env i with
  | .k kvs => P kvs
  | _ => False
theorem gv_k {env : En} {i : Nat} {kvs : List (Key × D)} (h : gv env i = .k kvs) : env[i]? = some (.k kvs) := gv_some h (by simp)
theorem ownK_some {env : En} {i : Nat} {P : List (Key × D) → Prop} (h : ownK env i P) : ∃ kvs, env[i]? = some (.k kvs) ∧ gv env i = .k kvs ∧ P kvs := by
  unfold ownK at h
  split at h
  · rename_i xs q
    exact ⟨xs, gv_k q, q, h⟩
  · exact h.elim
theorem ownK_mono {env : En} {i : Nat} {P Q : List (Key × D) → Prop} (k : ∀ x, P x → Q x) (h : ownK env i P) : ownK env i Q := by
  obtain ⟨kvs, _, q, p⟩ := ownK_some h
  unfold ownK
  rw [q]
  exact k _ p
def sDput (i : Nat) (mi mv : SE) : SS := fun K env => ownK env i fun kvs => mv env fun d => mi env fun z => obY (keyOf z) fun k => kvs.length < 16777216 ∧ K.nx (env.set i (.k (putG kvs k d)))
/-- d = {} -/
def sDnew (i : Nat) : SS := fun K env => K.nx (env.set i (.k []))
/-- the keys, all ints -/
def keysI : List (Key × D) → Option (List Int)
  | [] => some []
  | (.inl i, _) :: r => (keysI r).map fun l => i :: l
  | _ :: _ => none
theorem keysI_eq : ∀ {kvs : List (Key × D)} {ks : List Int}, keysI kvs = some ks → kvs.map (·.1) = ks.map Sum.inl
  | [], ks, h => by cases h; rfl
  | (.inl i, d) :: r, ks, h => by
    have h : (keysI r).map (fun l => i :: l) = some ks := h
    cases q : keysI r with
    | none => rw [q] at h; cases h
    | some l => rw [q] at h; cases h; rw [List.map_cons, keysI_eq q]; rfl
  | (.inr s, d) :: r, ks, h => by cases h
def sSrtKeys (m : SE) : SL := fun env Q => m env fun x => obK (asK x) fun kvs => obI (keysI kvs) fun ks => ks.length < 64 ∧ Q (dInts (isort ks))
/-- len(d) -/
def sDlen (m : SE) : SE := fun env Q => m env fun x => obK (asK x) fun kvs => Q (.int (kvs.length : Nat))
section
variable {X : Cx} {b b' : Bool} {a c e f o : Expr} {ma mc me mo mi mv : SE} {pos apos cpos npos : Pos}
theorem hu1 (hu : X.A.units + 65 < cLine) : X.A.units + 1 < cLine := by omega
theorem me_dix (hu : X.A.units + 65 < cLine) (ho : ME X true o mo) (hi : ME X true e mi) (hs : NoSl e := by intro _ _; rfl) : ME X b' (.Subscript o e pos) (sDix mo mi) := by
  refine ⟨⟨fun pins s σ H Q I h => (pe_dget (hu1 hu) ho.run hi.run hs).run pins s σ H Q I ?_⟩, fun env P Q k h => ho.mono _ _ _ (fun d hd => obK_mono (fun kvs h1 => hi.mono _ _ _ (fun z hz => obY_mono (fun q h2 => ob_mono k h2) hz) h1) hd) h⟩
  obtain ⟨y, dr, F, env, re, hm⟩ := h
  refine ⟨y, dr, F, env, re, ho.mono _ _ _ (fun d1 h1 v1 H1 F1 r1 s1 w1 => ?_) hm⟩
  cases q : asK d1 with
  | none => rw [q] at h1; exact h1.elim
  | some kvs =>
    rw [q] at h1
    refine ⟨y, dr, F1, env, r1, hi.mono _ _ _ (fun d2 h2 v2 H2 F2 r2 s2 w2 => ?_) h1⟩
    obtain ⟨p, kws, rfl, e1, e2⟩ := (w1.mono s2).asK r2 q
    cases q2 : keyOf d2 with
    | none => rw [q2] at h2; exact h2.elim
    | some k =>
      rw [q2] at h2
      rcases rks_get k e2 with ⟨d, v, g1, g2, g3⟩ | ⟨g1, g2⟩
      · have h2 : ob (getG kvs k) _ := h2
        rw [g1] at h2
        exact ⟨p, v, rfl, .inl ⟨kws, k, e1, keyV k q2 w2, g2.symm⟩, h2 _ H2 F2 r2 (s1.trans s2) (.inl g3)⟩
      · have h2 : ob (getG kvs k) _ := h2
        rw [g1] at h2; exact h2.elim
theorem me_dget (hu : X.A.units + 65 < cLine) (ho : ME X true o mo) (hi : ME X true e mi) (hv : ME X false f mv) (m : M2 X o "get" apos e f cpos := by exact ⟨rfl, rfl, rfl, rfl⟩) :
    ME X b' (.Call (.Attribute o "get" apos) [e, f] [] cpos) (sDget mo mi mv) := by
  refine ⟨⟨fun pins s σ H Q I h => (pe_dget2 (hu1 hu) ho.run hi.run hv.run m).run pins s σ H Q I ?_⟩, fun env P Q k h => ho.mono _ _ _ (fun d hd => obK_mono (fun kvs h1 => hi.mono _ _ _ (fun z hz => hv.mono _ _ _ (fun u hu => obY_mono (fun q h2 => k _ h2) hu) hz) h1) hd) h⟩
  obtain ⟨y, dr, F, env, re, hm⟩ := h
  refine ⟨y, dr, F, env, re, ho.mono _ _ _ (fun d1 h1 v1 H1 F1 r1 s1 w1 => ?_) hm⟩
  cases q : asK d1 with
  | none => rw [q] at h1; exact h1.elim
  | some kvs =>
    rw [q] at h1
    obtain ⟨p, kws0, rfl, e0, _⟩ := w1.asK r1 q
    refine ⟨p, rfl, .inl ⟨_, e0⟩, y, dr, F1, env, r1, hi.mono _ _ _ (fun d2 h2 v2 H2 F2 r2 s2 w2 => ?_) h1⟩
    refine ⟨y, dr, F2, env, r2, hv.mono _ _ _ (fun d3 h3 v3 H3 F3 r3 s3 w3 => ?_) h2⟩
    obtain ⟨p', kws, e', e1, e2⟩ := ((w1.mono s2).mono s3).asK r3 q
    cases e'
    cases q2 : keyOf d2 with
    | none => rw [q2] at h3; exact h3.elim
    | some k =>
      rw [q2] at h3
      have h3 : ∀ v H' F', _ := h3
      rcases rks_get k e2 with ⟨d, v, g1, g2, g3⟩ | ⟨g1, g2⟩
      · rw [g1] at h3
        exact ⟨some v, .inl ⟨kws, k, e1, keyV k q2 w2, g2.symm⟩, h3 _ H3 F3 r3 ((s1.trans s2).trans s3) (.inl g3)⟩
      · rw [g1] at h3
        exact ⟨none, .inl ⟨kws, k, e1, keyV k q2 w2, g2.symm⟩, h3 _ H3 F3 r3 ((s1.trans s2).trans s3) (.inl w3.rv)⟩
theorem ms_dput {i : Nat} {x : Str} {spos : Pos} (hu : X.A.units + 65 < cLine) (hn : PE X (.Name x npos) (tVar i)) (hi : ME X true c mi) (hv : ME X false e mv) (hs : swapsWith e (some (.Subscript (.Name x npos) c spos)) pos.line X.env = pure false := by rfl) :
    MS X (.Assign [.Subscript (.Name x npos) c spos] e pos) (sDput i mi mv) := by
  refine ⟨⟨fun pins s σ H E I h => (ps_dput (hu1 hu) hn hi.run hv.run hs).run pins s σ H E I ?_⟩, fun a c env k h => ownK_mono (fun kvs h1 => hv.mono _ _ _ (fun d hd => hi.mono _ _ _ (fun z hz => obY_mono (fun q h2 => ⟨h2.1, k.nx _ h2.2⟩) hz) hd) h1) h⟩
  obtain ⟨y, dr, F, env, re, hm⟩ := h
  obtain ⟨kvs, q, _, hm⟩ := ownK_some hm
  refine ⟨y, dr, F, env, re, hv.mono _ _ _ (fun d hd v H1 F1 r1 s1 w => ?_) hm⟩
  obtain ⟨o, g1, p, kws, g2, g3, _⟩ := r1.get q
  subst g2
  refine ⟨.ref p, g1, y, dr, F1, env, r1, hi.mono _ _ _ (fun z hz v2 H2 F2 r2 s2 w2 => ?_) hd⟩
  cases q2 : keyOf z with
  | none => rw [q2] at hz; exact hz.elim
  | some k =>
    rw [q2] at hz
    obtain ⟨o', g1', p', kws', g2', g3', g4', g5'⟩ := r2.get q
    rw [g1] at g1'; cases g1'; cases g2'
    have hz : kvs.length < 16777216 ∧ _ := hz
    refine ⟨p, _, rfl, .inl ⟨kws', k, g3', keyV k q2 w2, by rw [rks_len g4', sizeLine_eq]; exact hz.1, rfl⟩, ?_⟩
    refine hz.2 dr F2 σ _ (r2.setO q rfl rfl g1 fun z1 z2 z3 => ⟨p, _, rfl, upd_same, rks_put (w.mono s2).rv g4', z1, z2, z3⟩) (s1.trans s2).f
theorem ms_dnew {i : Nat} {x : Str} {pos' dpos : Pos} (hN : X.N.Nodup) (hi : X.N[i]? = some x) (hx : Loc X.env.scope x) (hs : swapsWith (.Dict [] [] dpos) (some (.Name x pos')) pos.line X.env = pure false := by rfl)
    (hf : X.fn x = true ∨ X.env.scope.names.lookup x = some .local := by first | exact .inl rfl | exact .inr rfl | assumption) : MS X (.Assign [.Name x pos'] (.Dict [] [] dpos) pos) (sDnew i) := by
  refine ⟨⟨fun pins s σ H E I h => (ps_set hN hi hx pe_dnewK hs hf).run pins s σ H E I ?_⟩, fun a c env k h => k.nx _ h⟩
  obtain ⟨y, dr, F, env, re, hm⟩ := h
  intro p hp
  have fr := re.free hp
  exact hm dr F _ _ ((re.grown hp).put ⟨p, [], rfl, upd_same, .nil, fr.nF, fr.nH, fr.nd⟩ fun _ a e j s' _ h1 h2 h3 => by cases e; exact fr.no j s' h1 h2 h3) (Same.refl _)
theorem call_lenRd : CallR X (.builtin "len") (fun xs H Q => ∃ a kvs, xs = [V.ref a] ∧ Rd H a (.dK kvs) ∧ Q (.int (kvs.length : Nat)) H) := by
  intro pins s σ H xs us Q I r h
  obtain ⟨a, kvs, rfl, e, q⟩ := h
  rw [Vals.ref1 r]
  exact d_len I e fun t s' I' => ⟨.int (kvs.length : Nat), H, I', ⟨t, rfl⟩, q⟩
theorem me_dlen {p : Pos} (hg : Gl X "len") (hm : X.mg "len" = none) (ha : ME X true a ma) (he : starEach [a] X.env = (false, eval a X.env) :: starEach [] X.env := by rfl) (hpl : (backTo pos (starEach [] X.env)).any (·.1) = false := by rfl) :
    ME X b' (.Call (.Name "len" p) [a] [] pos) (sDlen ma) := by
  refine ⟨⟨fun pins s σ H Q I hq => (pe_callB call_lenRd hg hm PySem.boot_len (pa_cons ha.run pa_nil he) (by decide) (by decide) he hpl).run pins s σ H Q I ?_⟩, fun env P Q k hp => ha.mono _ _ _ (fun d h1 => obK_mono (fun ns h => k _ h) h1) hp⟩
  obtain ⟨y, dr, F, env, re, hm⟩ := hq
  refine ⟨y, dr, F, env, re, ha.mono _ _ _ (fun d1 h1 v1 H1 F1 r1 s1 w1 => ?_) hm⟩
  cases q : asK d1 with
  | none => rw [q] at h1; exact h1.elim
  | some kvs =>
    rw [q] at h1
    obtain ⟨p', kws, rfl, e1, e2⟩ := w1.asK r1 q
    refine ⟨p', kws, rfl, e1, ?_⟩
    rw [rks_len e2]
    exact h1 _ H1 F1 r1 s1 (.inl (.int _))
theorem mf_srtKeys {p : Pos} (hc : X.calm = true) (hg : Gl X "sorted") (hm : X.mg "sorted" = none) (ha : ME X true a ma) (he : starEach [a] X.env = (false, eval a X.env) :: starEach [] X.env := by rfl) (hpl : (backTo pos (starEach [] X.env)).any (·.1) = false := by rfl) :
    MF X (.Call (.Name "sorted" p) [a] [] pos) (sSrtKeys ma) := by
  refine ⟨⟨fun pins s σ H Q I hq => (pe_callB (call_sortedDI hc) hg hm (by decide +kernel) (pa_cons ha.run pa_nil he) (by decide) (by decide) he hpl).run pins s σ H Q I ?_⟩, fun env P Q k hp => ha.mono _ _ _ (fun d h1 => obK_mono (fun kvs h => obI_mono (fun ns h => ⟨h.1, k _ h.2⟩) h) h1) hp⟩
  obtain ⟨y, dr, F, env, re, hm⟩ := hq
  refine ⟨y, dr, F, env, re, ha.mono _ _ _ (fun d1 h1 v1 H1 F1 r1 s1 w1 => ?_) hm⟩
  cases q : asK d1 with
  | none => rw [q] at h1; exact h1.elim
  | some kvs =>
    rw [q] at h1
    have h1 : obI (keysI kvs) _ := h1
    cases q2 : keysI kvs with
    | none => rw [q2] at h1; exact h1.elim
    | some ks =>
      rw [q2] at h1
      obtain ⟨hl, h1⟩ := h1
      obtain ⟨p', kws, rfl, e1, e2⟩ := w1.asK r1 q
      refine ⟨p', kws, ks, rfl, e1, (rks_keys e2).trans (keysI_eq q2), hl, fun ys p2 o1 o2 hp2 => ?_⟩
      have e : ys = isort ks := List.Perm.eq_of_pairwise (fun a b _ _ h1 h2 => Int.le_antisymm h1 h2) o2 (isort_sorted ks) (o1.trans (isort_perm ks).symm)
      subst e
      have hz : (dInts (isort ks)).length ≤ sizeLine := by rw [dInts_len, isort_len, sizeLine_eq]; omega
      exact new_lst r1 s1 hp2 (Rvs.ofInts _) hz h1
end
def okKs (s : Sl) (P : List (Key × D) → Prop) : Prop := match s with
  | .k xs => P xs
  | _ => False
@[simp] theorem okKs_k {xs : List (Key × D)} {P : List (Key × D) → Prop} : okKs (.k xs) P = P xs := rfl
@[simp] theorem u_ownK {env : En} {i : Nat} {P : List (Key × D) → Prop} : ownK env i P = okKs (gv env i) P := rfl
section
variable {mo mi mv m : SE} {env : En} {Q : D → Prop} {i : Nat} {K : Ks} {P : List D → Prop}
@[simp] theorem u_sDix : sDix mo mi env Q = (mo env fun x => obK (asK x) fun kvs => mi env fun z => obY (keyOf z) fun k => ob (getG kvs k) Q) := rfl
@[simp] theorem u_sDget : sDget mo mi mv env Q = (mo env fun x => obK (asK x) fun kvs => mi env fun z => mv env fun u => obY (keyOf z) fun k => Q ((getG kvs k).getD u)) := rfl
@[simp] theorem u_sDput : sDput i mi mv K env = (ownK env i fun kvs => mv env fun d => mi env fun z => obY (keyOf z) fun k => kvs.length < 16777216 ∧ K.nx (env.set i (.k (putG kvs k d)))) := rfl
@[simp] theorem u_sDnew : sDnew i K env = K.nx (env.set i (.k [])) := rfl
@[simp] theorem u_sSrtKeys : sSrtKeys m env P = (m env fun x => obK (asK x) fun kvs => obI (keysI kvs) fun ks => ks.length < 64 ∧ P (dInts (isort ks))) := rfl
@[simp] theorem u_sDlen : sDlen m env Q = (m env fun x => obK (asK x) fun kvs => Q (.int (kvs.length : Nat))) := rfl
end
/-! counts by ints -/
def kI (kvs : List (Int × Int)) : List (Key × D) := kvs.map fun p => (.inl p.1, .int p.2)
end Mi

namespace Mi
open PySem PySem.Spec L2
/-! ### xs.count(v) -/
def rCountD (K : Fg) : V → List V → Hp → VK → Prop := fun x xs H Q => ∃ (a : Addr) (y : V) (d : D) (ds : List D), x = V.ref a ∧ xs = [y] ∧ Dp K H (V.ref a) (.list ds) ∧ Dp K H y d ∧
  SeqAt.shaped (.list ds) = true ∧ SeqAt.shaped d = true ∧ Q (.int ((ds.countP fun z => PyData.eqv z d : Nat) : Int)) H
theorem mt_countD {X : Cx} (hu : X.A.units + 65 < cLine) : MtR X "list.count" (rCountD X.G) := by
  intro pins s σ H x xs v us Q I rx rxs h
  obtain ⟨a, y, d, ds, rfl, rfl, hl, hy, sl, sd, q⟩ := h
  cases rx
  cases rxs with
  | cons ry rt =>
    rename_i uy ut
    cases rt
    obtain ⟨bs, r1⟩ := Dp.reads I d y uy hy ry
    have c1 : PyData.canLayAll0 ds = true := SeqAt.canLay_of_shaped sl
    have c2 : X.A.units + 1 + min (PyData.depthAll ds) d.depth < cLine := PyProof.Rows.room_in_shaped sd hu
    cases hl with
    | lst hs ha =>
      obtain ⟨its, rv, ⟨⟨cls, dd, data, sls⟩, n, ho, hc, hdn, hdt⟩, hlen⟩ := I.list hs
      simp only at hc hdt
      subst hc
      subst hdt
      obtain ⟨as, h4⟩ := Dp.readsAll I ds _ its ha rv
      have c3 : its.map (SeqAt.readOf s.heap) = ds := SeqAt.readsAll_map ds its as c1 h4
      refine call_meets PySem.F.slot_list_count ⟨_, ho, rfl⟩ PySem.F.entry_list_count (PySem.F.args_list_count_2 _ _)
        (SeqAt.list_countAt a its.toArray n dd sls uy fun u => PyData.eqv (SeqAt.readOf s.heap u) d) ⟨ho, SeqAt.items_eqAt (vs := its.toArray) (show ReadsAll s.heap its.toArray.toList ds as from h4) r1 c1 (SeqAt.canLay_of_shaped sd) c2, ?_⟩
      have e : its.toArray.toList.countP (fun u => PyData.eqv (SeqAt.readOf s.heap u) d) = ds.countP fun z => PyData.eqv z d := by
        rw [← c3, List.countP_map]
        rfl
      refine ⟨.int ((ds.countP fun z => PyData.eqv z d : Nat) : Int), H, I.tok _, ⟨s.toks, ?_⟩, q⟩
      show Value.int ((its.toArray.toList.countP (fun u => PyData.eqv (SeqAt.readOf s.heap u) d) : Nat) : Int) s.toks = _
      rw [e]
def cntL (ds : List D) (d : D) : Option D := if SeqAt.shaped (.list ds) = true ∧ SeqAt.shaped d = true then some (.int ((ds.countP fun z => PyData.eqv z d : Nat) : Int)) else none
def sCnt' (ma mc : SE) : SE := fun env Q => ma env fun x => match x with
  | .list ds => mc env fun z => ob (cntL ds z) Q
  | _ => False
section
variable {X : Cx} {b b' : Bool} {a c e o : Expr} {ma mc me : SE} {pos apos cpos npos : Pos}
theorem me_cnt (hu : X.A.units + 65 < cLine) (ha : ME X true a ma) (hc : ME X true c mc)
    (hbase : attributeBase a "count" X.env (eval a X.env) = eval a X.env := by rfl)
    (hfew : ((backTo cpos (starEach [c] X.env)).all (fun x => !x.1) && (backToKw cpos (keywordEach [] X.env)).all (fun x => x.1.isSome)
      && decide ([c].length + ([] : List Keyword).length + (if ([] : List Keyword).isEmpty then 0 else 1) < 30)) = true := by rfl)
    (hline : (apos.endLine == cpos.line) = true := by rfl) (hs : starEach [c] X.env = (false, eval c X.env) :: starEach [] X.env := by rfl) (hplain : (backTo cpos (starEach [] X.env)).any (·.1) = false := by rfl) :
    ME X b' (.Call (.Attribute a "count" apos) [c] [] cpos) (sCnt' ma mc) := by
  refine ⟨⟨fun pins s σ H Q I h => (pe_bm PySem.F.plainAttrs_list PySem.F.slot_list_count PySem.F.type_list_count (mt_countD hu) ha.run (pa_cons hc.run pa_nil hs) hbase hfew hline hs hplain).run pins s σ H Q I ?_⟩,
    fun env P Q k h => ha.mono _ _ _ (fun d hd => by cases d <;> first | exact hc.mono _ _ _ (fun _ h2 => ob_mono k h2) hd | exact hd) h⟩
  obtain ⟨y, dr, F, env, re, hm⟩ := h
  refine ⟨y, dr, F, env, re, ha.mono _ _ _ (fun d hd v H1 F1 r1 s1 w1 => ?_) hm⟩
  cases d with
  | list ds =>
    obtain ⟨p, vs, rfl, h1, z1, rv⟩ := w1.list r1
    refine ⟨.inl ⟨rfl, _, SqL.of h1⟩, y, dr, F1, env, r1, hc.mono _ _ _ (fun d2 h2 v2 H2 F2 r2 s2 w2 => ?_) hd⟩
    unfold cntL at h2
    by_cases c1 : SeqAt.shaped (.list ds) = true ∧ SeqAt.shaped d2 = true
    · rw [if_pos c1] at h2
      have dl := (w1.mono s2).dp r2 (lay_shaped c1.1)
      have dv := w2.dp r2 (lay_shaped c1.2)
      exact ⟨p, v2, d2, ds, rfl, rfl, dl, dv, c1.1, c1.2, h2 _ H2 F2 r2 (s1.trans s2) (.inl (.int _))⟩
    · rw [if_neg c1] at h2; exact h2.elim
  | _ => exact hd.elim
@[simp] theorem u_sCntt {env : En} {Q : D → Prop} : sCnt' ma mc env Q = (ma env fun x => match x with | .list ds => mc env fun z => ob (cntL ds z) Q | _ => False) := rfl
theorem cnt_ints {xs : List Int} {a : Int} : cntL (dInts xs) (.int a) = some (.int ((xs.count a : Nat) : Int)) := by
  unfold cntL
  rw [if_pos ⟨shaped_lI xs, rfl⟩]
  have : (dInts xs).countP (fun z => PyData.eqv z (.int a)) = xs.count a := by
    unfold dInts
    rw [List.countP_map]
    rfl
  rw [this]
end
end Mi

namespace Mi
open PySem PySem.Spec L2
/-! ### plain helpers: any, all; dicts -/
theorem any_map {α : Type} (xs : List α) (p : α → Bool) : anyD (.list (xs.map fun x => PyData.bool (p x))) = some (.bool (xs.any p)) := by
  have e : xs.map (fun x => PyData.bool (p x)) = (xs.map p).map PyData.bool := by rw [List.map_map]; rfl
  unfold anyD
  show (boolsOf _).map _ = _
  rw [e, boolsOf_map]
  show some (PyData.bool ((xs.map p).any id)) = _
  rw [List.any_map]
  rfl
theorem all_map {α : Type} (xs : List α) (p : α → Bool) : allD (.list (xs.map fun x => PyData.bool (p x))) = some (.bool (xs.all p)) := by
  have e : xs.map (fun x => PyData.bool (p x)) = (xs.map p).map PyData.bool := by rw [List.map_map]; rfl
  unfold allD
  show (boolsOf _).map _ = _
  rw [e, boolsOf_map]
  show some (PyData.bool ((xs.map p).all id)) = _
  rw [List.all_map]
  rfl
theorem getG_put {β : Type} (k k' : Key) (v : β) : ∀ kvs : List (Key × β), getG (putG kvs k v) k' = if k = k' then some v else getG kvs k' := by
  have hmap : ∀ kvs : List (Key × β), (kvs.any fun p => decide (p.1 = k)) = true → getG (kvs.map fun p => if p.1 = k then (p.1, v) else p) k' = if k = k' then some v else getG kvs k' := by
    intro kvs
    induction kvs with
    | nil => intro h; cases h
    | cons p r ih =>
      intro h
      rw [List.map_cons]
      by_cases c : p.1 = k
      · rw [if_pos c]
        by_cases c2 : k = k'
        · simp [getG, c, c2]
        · have c3 : ¬ p.1 = k' := fun z => c2 (c.symm.trans z)
          rw [if_neg c2]
          have e1 : getG (p :: r) k' = getG r k' := by simp [getG, c3]
          have e2 : getG ((p.1, v) :: r.map fun p => if p.1 = k then (p.1, v) else p) k' = getG (r.map fun p => if p.1 = k then (p.1, v) else p) k' := by simp [getG, c3]
          rw [e1, e2]
          by_cases c4 : (r.any fun p => decide (p.1 = k)) = true
          · rw [ih c4, if_neg c2]
          · have : r.map (fun p => if p.1 = k then (p.1, v) else p) = r := by
              rw [List.map_congr_left (g := id), List.map_id]
              intro q hq
              have : ¬ q.1 = k := fun z => c4 (List.any_eq_true.mpr ⟨q, hq, by simp [z]⟩)
              simp [this]
            rw [this]
      · rw [if_neg c]
        have h2 : (r.any fun p => decide (p.1 = k)) = true := by simpa [c] using h
        by_cases c3 : p.1 = k'
        · have c2 : ¬ k = k' := fun z => c (c3.trans z.symm)
          rw [if_neg c2]
          simp [getG, c3]
        · have e1 : getG (p :: r) k' = getG r k' := by simp [getG, c3]
          have e2 : getG (p :: r.map fun p => if p.1 = k then (p.1, v) else p) k' = getG (r.map fun p => if p.1 = k then (p.1, v) else p) k' := by simp [getG, c3]
          rw [e1, e2, ih h2]
  intro kvs
  unfold putG
  by_cases c : (kvs.any fun p => decide (p.1 = k)) = true
  · rw [if_pos c]; exact hmap kvs c
  · rw [if_neg c]
    by_cases c2 : k = k'
    · subst c2
      rw [if_pos rfl]
      have : kvs.find? (fun p => decide (p.1 = k)) = none := by
        rw [List.find?_eq_none]
        intro q hq z
        exact c (List.any_eq_true.mpr ⟨q, hq, z⟩)
      unfold getG
      rw [List.find?_append, this]
      simp
    · rw [if_neg c2]
      unfold getG
      rw [List.find?_append]
      cases h : kvs.find? fun p => decide (p.1 = k') with
      | none => simp [c2]
      | some q => simp
theorem keysI_app {kvs : List (Key × D)} {ks : List Int} (h : keysI kvs = some ks) (x : Int) (v : D) : keysI (kvs ++ [(.inl x, v)]) = some (ks ++ [x]) := by
  induction kvs generalizing ks with
  | nil => cases h; rfl
  | cons p r ih =>
    obtain ⟨k, d⟩ := p
    cases k with
    | inr s => cases h
    | inl i =>
      have h : (keysI r).map (fun l => i :: l) = some ks := h
      cases q : keysI r with
      | none => rw [q] at h; cases h
      | some l =>
        rw [q] at h; cases h
        show (keysI (r ++ [(.inl x, v)])).map _ = _
        rw [ih q]; rfl
theorem keysI_map {kvs : List (Key × D)} {k : Key} {v : D} : keysI (kvs.map fun p => if p.1 = k then (p.1, v) else p) = keysI kvs := by
  induction kvs with
  | nil => rfl
  | cons p r ih =>
    obtain ⟨k0, d⟩ := p
    rw [List.map_cons]
    have e : (if (k0, d).1 = k then ((k0, d).1, v) else (k0, d)) = (k0, if k0 = k then v else d) := by split <;> simp_all
    rw [e]
    cases k0 with
    | inr s => rfl
    | inl i =>
      show (keysI _).map _ = (keysI r).map _
      rw [ih]
theorem keysI_any {kvs : List (Key × D)} {ks : List Int} (h : keysI kvs = some ks) (x : Int) : (kvs.any fun p => decide (p.1 = .inl x)) = decide (x ∈ ks) := by
  induction kvs generalizing ks with
  | nil => cases h; rfl
  | cons p r ih =>
    obtain ⟨k, d⟩ := p
    cases k with
    | inr s => cases h
    | inl i =>
      have h : (keysI r).map (fun l => i :: l) = some ks := h
      cases q : keysI r with
      | none => rw [q] at h; cases h
      | some l =>
        rw [q] at h; cases h
        rw [List.any_cons, ih q]
        by_cases c : i = x
        · subst c; simp
        · have c' : ¬ x = i := fun z => c z.symm
          have c2 : ¬ ((Sum.inl i : Key) = .inl x) := fun z => c (Sum.inl.inj z)
          simp [c', c2]
theorem keysI_put {kvs : List (Key × D)} {ks : List Int} (h : keysI kvs = some ks) (x : Int) (v : D) : keysI (putG kvs (.inl x) v) = some (if x ∈ ks then ks else ks ++ [x]) := by
  unfold putG
  rw [keysI_any h x]
  by_cases c : x ∈ ks
  · rw [if_pos (by simpa using c), if_pos c, keysI_map, h]
  · rw [if_neg (by simpa using c), if_neg c, keysI_app h]
theorem keysI_len {kvs : List (Key × D)} {ks : List Int} (h : keysI kvs = some ks) : kvs.length = ks.length := by
  have := congrArg List.length (keysI_eq h)
  simpa using this
/-- a dict of the row's members: at each what f tells of the row -/
structure DOf (f : Int → List Int → D) (kvs : List (Key × D)) (L : List Int) : Prop where
  ks : ∃ ks, keysI kvs = some ks ∧ ks.Nodup ∧ ∀ x, x ∈ ks ↔ x ∈ L
  at_ : ∀ x, getG kvs (.inl x) = if x ∈ L then some (f x L) else none
theorem DOf.nil {f : Int → List Int → D} : DOf f [] [] := ⟨⟨[], rfl, .nil, fun x => Iff.rfl⟩, fun x => rfl⟩
theorem DOf.put {f : Int → List Int → D} {kvs : List (Key × D)} {L : List Int} (h : DOf f kvs L) {x : Int} {v : D} (hv : v = f x (L ++ [x])) (hf : ∀ y, y ≠ x → f y (L ++ [x]) = f y L) : DOf f (putG kvs (.inl x) v) (L ++ [x]) := by
  obtain ⟨⟨ks, h1, h2, h3⟩, h4⟩ := h
  refine ⟨⟨_, keysI_put h1 x v, ?_, fun y => ?_⟩, fun y => ?_⟩
  · split
    · exact h2
    · rename_i c
      rw [List.nodup_append]
      refine ⟨h2, by simp, fun a ha b hb => ?_⟩
      have : b = x := by simpa using hb
      subst this
      exact fun z => c (z ▸ ha)
  · split
    · rename_i c
      rw [h3, List.mem_append, List.mem_singleton]
      exact ⟨.inl, fun z => z.elim id fun e => e ▸ (h3 x).mp c⟩
    · rw [List.mem_append, List.mem_append, h3]
  · rw [getG_put, h4]
    by_cases c : x = y
    · subst c
      rw [if_pos rfl, if_pos (by simp), hv]
    · have c2 : ¬ (Sum.inl x : Key) = .inl y := fun z => c (Sum.inl.inj z)
      have c3 : ¬ y = x := fun z => c z.symm
      rw [if_neg c2]
      by_cases c4 : y ∈ L
      · rw [if_pos c4, if_pos (by simp [c4]), hf y c3]
      · rw [if_neg c4, if_neg (by simp [c4, c3])]
theorem DOf.sorted {f : Int → List Int → D} {kvs : List (Key × D)} {L : List Int} (h : DOf f kvs L) : ∃ ks, keysI kvs = some ks ∧ ks.length ≤ L.length ∧ isort ks = usort L ∧ kvs.length = (usort L).length := by
  obtain ⟨⟨ks, h1, h2, h3⟩, h4⟩ := h
  have e : isort ks = usort L := lt_uniq (lt_of_le_nd (isort_sorted _) ((isort_perm ks).nodup_iff.mpr h2)) (usort_lt L) fun a => by rw [isort_mem, h3, usort_mem]
  have hl : ks.length = (usort L).length := by rw [← e, isort_len]
  exact ⟨ks, h1, by rw [hl]; exact usort_len L, e, by rw [keysI_len h1, hl]⟩
/-- counts -/
def cntF (x : Int) (L : List Int) : D := .int ((L.count x : Nat) : Int)
theorem DOf.count {kvs : List (Key × D)} {L : List Int} (h : DOf cntF kvs L) {x : Int} : ∃ c : Int, (getG kvs (.inl x)).getD (.int 0) = .int c ∧ DOf cntF (putG kvs (.inl x) (.int (c + 1))) (L ++ [x]) := by
  refine ⟨((L.count x : Nat) : Int), ?_, h.put (v := .int (((L.count x : Nat) : Int) + 1)) ?_ fun y hy => ?_⟩
  · rw [h.at_]
    by_cases c : x ∈ L
    · rw [if_pos c]; rfl
    · rw [if_neg c, List.count_eq_zero_of_not_mem c]; rfl
  · unfold cntF
    rw [List.count_append]
    simp
  · unfold cntF
    rw [List.count_append, List.count_singleton]
    have : ¬ x = y := fun z => hy z.symm
    simp [this]
end Mi

namespace Mi
open PySem PySem.Spec L2
/-! ### sorted rows of pairs and of triples of ints -/
abbrev P2 := Int × Int
abbrev P3 := Int × Int × Int
def d2 (p : P2) : D := .tuple [.int p.1, .int p.2]
def d3 (p : P3) : D := .tuple [.int p.1, .int p.2.1, .int p.2.2]
def le2 (p q : P2) : Bool := decide (p.1 < q.1 ∨ (p.1 = q.1 ∧ p.2 ≤ q.2))
def le3 (p q : P3) : Bool := decide (p.1 < q.1 ∨ (p.1 = q.1 ∧ (p.2.1 < q.2.1 ∨ (p.2.1 = q.2.1 ∧ p.2.2 ≤ q.2.2))))
theorem leD_2 (p q : P2) : leD' (d2 p) (d2 q) = le2 p q := congrFun (congrFun (PySem.W.dataLe_ii (β := P2) (fun b => b.1) fun b => b.2) p) q
theorem lt_3 (a b c a' b' c' : Int) : PySem.W.dataLt (.tuple [.int a, .int b, .int c]) (.tuple [.int a', .int b', .int c']) = decide (a < a' ∨ (a = a' ∧ (b < b' ∨ (b = b' ∧ c < c')))) := by
  have al : ∀ x y : Int, PySem.W.alike (.int x) (.int y) = true := fun x y => by simp [PySem.W.alike]
  have ev : ∀ x y : Int, PyData.eqv (.int x) (.int y) = decide (x = y) := fun x y => by
    show (x == y) = _
    by_cases c : x = y <;> simp [c]
  rw [PySem.W.dataLt_tuple, PySem.W.dataLt_cons (al a a'), PySem.W.dataLt_cons (al b b'), PySem.W.dataLt_cons (al c c'), ev, ev, ev, PySem.W.dataLt_int, PySem.W.dataLt_int, PySem.W.dataLt_int]
  have e : PyProof.Rows.lexLt PyProof.Rows.itemOrd (PySem.W.keyToksAll []) (PySem.W.keyToksAll []) = false := PyProof.Rows.lex_irrefl _
  rw [e]
  by_cases h1 : a = a'
  · subst h1
    by_cases h2 : b = b'
    · subst h2
      by_cases h3 : c = c'
      · subst h3; simp
      · simp [h3]
    · simp [h2]
  · simp [h1]
theorem leD_3 (p q : P3) : leD' (d3 p) (d3 q) = le3 p q := by
  have : leD' (d3 p) (d3 q) = !PySem.W.dataLt (d3 q) (d3 p) := by
    unfold leD'
    rw [PySem.W.dataLe_eq]
    rfl
  rw [this]
  unfold d3
  rw [lt_3]
  unfold le3
  rw [← decide_not]
  congr 1
  apply propext
  omega
theorem srt_map {α : Type} (f : α → D) (xs : List α) : srt (xs.map f) = (xs.mergeSort fun a b => leD' (f a) (f b)).map f := by
  unfold srt
  exact (List.map_mergeSort (f := f) (r := fun a b => leD' (f a) (f b)) (s := leD') (fun a _ b _ => rfl)).symm
theorem srtOk_2 (xs : List P2) : SrtOk (xs.map d2) where
  lay := by intro d hd; obtain ⟨i, _, rfl⟩ := List.mem_map.mp hd; rfl
  al := PySem.W.AllAlike.of fun _ _ => by simp [d2, PySem.W.alike, PySem.W.alikeAll]
  so := PySem.W.Sortable.tuples fun _ => ⟨_, _, rfl⟩
  dp := by intro d hd; obtain ⟨i, _, rfl⟩ := List.mem_map.mp hd; simp [d2, PyData.depth, PyData.depthAll]
theorem srtOk_3 (xs : List P3) : SrtOk (xs.map d3) where
  lay := by intro d hd; obtain ⟨i, _, rfl⟩ := List.mem_map.mp hd; rfl
  al := PySem.W.AllAlike.of fun _ _ => by simp [d3, PySem.W.alike, PySem.W.alikeAll]
  so := PySem.W.Sortable.tuples fun _ => ⟨_, _, rfl⟩
  dp := by intro d hd; obtain ⟨i, _, rfl⟩ := List.mem_map.mp hd; simp [d3, PyData.depth, PyData.depthAll]
def sort2 (xs : List P2) : List P2 := xs.mergeSort le2
def sort3 (xs : List P3) : List P3 := xs.mergeSort le3
theorem srt_2 (xs : List P2) : srt (xs.map d2) = (sort2 xs).map d2 := by
  rw [srt_map]
  have : (fun a b : P2 => leD' (d2 a) (d2 b)) = le2 := funext fun a => funext fun b => leD_2 a b
  rw [this]; rfl
theorem srt_3 (xs : List P3) : srt (xs.map d3) = (sort3 xs).map d3 := by
  rw [srt_map]
  have : (fun a b : P3 => leD' (d3 a) (d3 b)) = le3 := funext fun a => funext fun b => leD_3 a b
  rw [this]; rfl
theorem sort2_perm (xs : List P2) : (sort2 xs).Perm xs := List.mergeSort_perm _ _
theorem sort3_perm (xs : List P3) : (sort3 xs).Perm xs := List.mergeSort_perm _ _
theorem sort2_so (xs : List P2) : (sort2 xs).Pairwise fun a b => le2 a b = true := by
  refine List.pairwise_mergeSort (fun a b c h1 h2 => ?_) (fun a b => ?_) xs
  · unfold le2 at *; rw [decide_eq_true_eq] at *; omega
  · unfold le2; rw [Bool.or_eq_true, decide_eq_true_eq, decide_eq_true_eq]; omega
theorem sort3_so (xs : List P3) : (sort3 xs).Pairwise fun a b => le3 a b = true := by
  refine List.pairwise_mergeSort (fun a b c h1 h2 => ?_) (fun a b => ?_) xs
  · unfold le3 at *; rw [decide_eq_true_eq] at *; omega
  · unfold le3; rw [Bool.or_eq_true, decide_eq_true_eq, decide_eq_true_eq]; omega
theorem sort2_uniq {xs ys : List P2} (hp : ys.Perm xs) (hs : ys.Pairwise fun a b => le2 a b = true) : ys = sort2 xs := by
  refine List.Perm.eq_of_pairwise (fun a b _ _ h1 h2 => ?_) hs (sort2_so xs) (hp.trans (sort2_perm xs).symm)
  unfold le2 at *
  rw [decide_eq_true_eq] at *
  exact Prod.ext (by omega) (by omega)
/-- a row of values of a range, read -/
theorem at_rngf {f : Int → Int} {i : Int} {n : Int} (h0 : 0 ≤ i) (h1 : i < n) : atI (dInts ((rng 0 n).map f)) i = some (.int (f i)) := by
  have hl : (rng 0 n).length = n.toNat := by unfold rng; simp
  rw [at_dInts h0 (by rw [List.length_map, hl]; omega), List.getElem_map]
  congr 3
  unfold rng
  simp
  omega
theorem add_ll {xs ys : List D} (h : xs.length + ys.length ≤ 16777216) : addD (.list xs) (.list ys) = some (.list (xs ++ ys)) := by
  have h2 : xs.length + ys.length ≤ sizeLine := by rw [sizeLine_eq]; exact h
  exact if_pos h2
theorem add_tt {xs ys : List D} (h : xs.length + ys.length ≤ 16777216) : addD (.tuple xs) (.tuple ys) = some (.tuple (xs ++ ys)) := by
  have h2 : xs.length + ys.length ≤ sizeLine := by rw [sizeLine_eq]; exact h
  exact if_pos h2
theorem at_endI {ns : List Int} (h : ns ≠ []) : atI (dInts ns) (-1) = some (.int (ns.getLast h)) := by
  have e : ns = ns.dropLast ++ [ns.getLast h] := (List.dropLast_concat_getLast h).symm
  conv => lhs; rw [e]
  rw [dI_one]
  exact at_end
theorem min_dI {ns : List Int} (h : 0 < ns.length) : minD (.list (dInts ns)) = some (.int (minL ns)) := by
  show (intsOf (ns.map PyData.int)).bind _ = _
  rw [intsOf_map]
  exact if_pos h
theorem max_dI {ns : List Int} (h : 0 < ns.length) : maxD (.list (dInts ns)) = some (.int (maxL ns)) := by
  show (intsOf (ns.map PyData.int)).bind _ = _
  rw [intsOf_map]
  exact if_pos h
end Mi

namespace Mi
open PySem PySem.Spec L2
/-! ### a call that only reads the caller's own lists, with an answer that holds no object -/
def atomD : D → Bool
  | .none => true
  | .bool _ => true
  | .int _ => true
  | .str _ => true
  | _ => false
def noDr : List Sl → Bool
  | [] => true
  | .dr :: _ => false
  | _ :: r => noDr r
def sCallB (n : Nat) (sm : Sm) (mr : SR) : SE := fun env Q => mr env fun args => noDr args = true ∧ up sm args fun d => atomD d = true ∧ Q d
theorem Rv.atom {K : Fg} {F F' : Hp} {d : D} {v : V} (h : Rv K F d v) (a : atomD d = true) : Rv K F' d v := by
  cases h with
  | non => exact .non
  | bl b => exact .bl b
  | int i => exact .int i
  | str s z => exact .str s z
  | _ => cases a
theorem Vr.all {K : Fg} {y : Cy} {dr : Option Addr} {F H : Hp} {env : En} {σ : L2.St} (re : Re K y dr F env σ H) {d : D} {v : V} (w : Vr K true F env σ d v) : Rv K H d v := by
  rcases w with w | ⟨_, i, s, e1, e2, e3⟩
  · exact w.mono re.rf.sub
  · obtain ⟨o, q1, q2⟩ := re.get e1
    rw [e3] at q1; cases q1
    cases s with
    | l zs =>
      cases e2
      obtain ⟨a, vs, h1, h2, h3, h4, _⟩ := q2
      cases h1
      exact .lst h2 h3 (h4.mono re.rf.sub)
    | k zs =>
      cases e2
      obtain ⟨a, vs, h1, h2, h3, _⟩ := q2
      cases h1
      exact .dic (.inl h2) (h3.mono re.rf.sub)
    | t zs =>
      cases e2
      obtain ⟨a, vs, h1, h2, h3, _⟩ := q2
      cases h1
      exact .dit (.inl h2) (h3.mono re.rf.sub)
    | _ => cases e2
theorem args_all {K : Fg} {y : Cy} {dr : Option Addr} {F H : Hp} {env : En} {σ : L2.St} (re : Re K y dr F env σ H) : ∀ {args : List Sl} {vs : List V}, Paired (RArgB K true F dr env σ) args vs → noDr args = true → Paired (RArg K H none) args vs
  | [], [], .nil, _ => .nil
  | s :: args, v :: vs, .cons r t, h => by
    cases s with
    | v d => exact .cons (Vr.all re r) (args_all re t h)
    | dr => cases h
    | _ => exact r.elim
section
variable {X : Cx} {b : Bool} {e : Expr} {es : List Expr} {mr : SR} {pos p : Pos}
theorem me_callDB {k n : Nat} {ps : List Str} {sm : Sm} {x : Str} (d : Df X.prog X.w X.K X.mg X.base x k ps (spOf X.G sm n)) (hn : ps.length = n) (hr : Room k X.A)
    (hl : (e :: es).length = n) (ha : MR X true (e :: es) mr) (hg : Gl X x := by rfl) (hdb : (x == ("__debug__" : Str)) = false := by decide) (he : starEach (e :: es) X.env = (false, eval e X.env) :: starEach es X.env := by rfl) (hpl : (backTo pos (starEach es X.env)).any (·.1) = false := by rfl) :
    ME X b (.Call (.Name x p) (e :: es) [] pos) (sCallB n sm mr) := by
  obtain ⟨f, fd, hm, hk, hb, Fo⟩ := d
  refine ⟨⟨fun pins s σ H Q I h => (pe_call Fo hr hg hm hk hb .nil pass0 ha.run hdb he hpl).run pins s σ H Q I ?_⟩, fun env P Q k h => ha.mono _ _ _ (fun args h1 => ⟨h1.1, up_mono (fun d h2 => ⟨h2.1, k _ h2.2⟩) h1.2⟩) h⟩
  obtain ⟨y, dr, F, env, re, hm2⟩ := h
  refine ⟨y, dr, F, env, re, ha.mono _ _ _ (fun args h1 vs H1 F1 r1 s1 w1 => ?_) (ha.len _ _ hm2)⟩
  have hlen : args.length = vs.length := Paired.length w1
  refine ⟨by rw [List.append_nil, ← hlen]; exact h1.1.trans hl, H1, none, args, Same.refl _, fun _ e => (nomatch e), ?_, up_mono (fun d hd v H' F' dr' rf rv => ?_) h1.2.2⟩
  · rw [List.append_nil]
    exact args_all r1 w1 h1.2.1
  · have gr : ∀ a o, H1 a = some o → H' a = some o := fun a o h => rf.gr a o h (by simp)
    have b2 : Rf ⟨F1, H1, dr⟩ dr F1 H' := ⟨fun a o h => gr a o (r1.rf.sub a o h), Same.refl _, fun a h => .inl h, fun a o h _ => gr a o h, fun a h => by
      cases q : H1 a with
      | none => exact absurd q h
      | some o => rw [gr a o q]; simp, fun a h => by
      obtain ⟨q1, q2⟩ := r1.rf.drw a h
      obtain ⟨l, ns, p, c, s', h1, h2⟩ := q2
      exact ⟨q1, l, ns, p, c, s', gr _ _ h1, h2⟩, .inr rfl, fun a h => .inl h⟩
    exact hd.2 v H' F1 (r1.back b2) (s1.trans ⟨Same.refl _, fun a o h _ => gr a o h⟩) (.inl (rv.atom hd.1))
end
@[simp] theorem u_sCallB {n : Nat} {sm : Sm} {mr : SR} {env : En} {Q : D → Prop} : sCallB n sm mr env Q = (mr env fun args => noDr args = true ∧ up sm args fun d => atomD d = true ∧ Q d) := rfl
@[simp] theorem noDr_n : noDr [] = true := rfl
@[simp] theorem noDr_v {d : D} {r : List Sl} : noDr (.v d :: r) = noDr r := rfl
end Mi

namespace Mi
open PySem PySem.Spec L2
/-! ### x.append((a, y.pop(0))), x and y own lists, a a name -/
def popK (ys : List D) (P : D → List D → Prop) : Prop := match ys with
  | y :: r => P y r
  | [] => False
@[simp] theorem popK_c {y : D} {r : List D} {P : D → List D → Prop} : popK (y :: r) P = P y r := rfl
def sAppPop (i j k : Nat) : SS := fun K env => ownL env i fun xs => ownL env j fun ys => sVar k env fun d => i ≠ j ∧ xs.length < 16777216 ∧ popK ys fun y r => K.nx ((env.set j (.l r)).set i (.l (xs ++ [.tuple [d, y]])))
@[simp] theorem u_sAppPop {i j k : Nat} {K : Ks} {env : En} : sAppPop i j k K env = (ownL env i fun xs => ownL env j fun ys => sVar k env fun d => i ≠ j ∧ xs.length < 16777216 ∧ popK ys fun y r => K.nx ((env.set j (.l r)).set i (.l (xs ++ [.tuple [d, y]])))) := rfl
section
variable {X : Cx} {pos apos cpos npos p1 p2 p3 p4 p5 : Pos}
theorem ms_appPop {i j k : Nat} {x a y : Str} {ctx : Pos} {kk c0 : Nat} (hx : PE X (.Name x npos) (tVar i)) (hy : PE X (.Name y p1) (tVar j)) (ha : PE X (.Name a p2) (tVar k))
    (b1 : attributeBase (.Name y p1) "pop" X.env (eval (.Name y p1) X.env) = eval (.Name y p1) X.env := by rfl)
    (f1 : ((backTo p5 (starEach [.Constant (.int 0) c0 p4] X.env)).all (fun x => !x.1) && (backToKw p5 (keywordEach [] X.env)).all (fun x => x.1.isSome)
      && decide (([.Constant (.int 0) c0 p4] : List Expr).length + ([] : List Keyword).length + (if ([] : List Keyword).isEmpty then 0 else 1) < 30)) = true := by rfl)
    (l1 : (p3.endLine == p5.line) = true := by rfl) (s1 : starEach [.Constant (.int 0) c0 p4] X.env = (false, eval (.Constant (.int 0) c0 p4) X.env) :: starEach [] X.env := by rfl) (q1 : (backTo p5 (starEach [] X.env)).any (·.1) = false := by rfl)
    (s2 : starEach [.Call (.Attribute (.Name y p1) "pop" p3) [.Constant (.int 0) c0 p4] [] p5] X.env = (false, eval (.Call (.Attribute (.Name y p1) "pop" p3) [.Constant (.int 0) c0 p4] [] p5) X.env) :: starEach [] X.env := by rfl)
    (s3 : starEach [.Name a p2, .Call (.Attribute (.Name y p1) "pop" p3) [.Constant (.int 0) c0 p4] [] p5] X.env = (false, eval (.Name a p2) X.env) :: starEach [.Call (.Attribute (.Name y p1) "pop" p3) [.Constant (.int 0) c0 p4] [] p5] X.env := by rfl)
    (hbase : attributeBase (.Name x npos) "append" X.env (eval (.Name x npos) X.env) = eval (.Name x npos) X.env := by rfl)
    (hfew : ((backTo cpos (starEach [.Tuple [.Name a p2, .Call (.Attribute (.Name y p1) "pop" p3) [.Constant (.int 0) c0 p4] [] p5] kk ctx] X.env)).all (fun x => !x.1) && (backToKw cpos (keywordEach [] X.env)).all (fun x => x.1.isSome)
      && decide (([.Tuple [.Name a p2, .Call (.Attribute (.Name y p1) "pop" p3) [.Constant (.int 0) c0 p4] [] p5] kk ctx] : List Expr).length + ([] : List Keyword).length + (if ([] : List Keyword).isEmpty then 0 else 1) < 30)) = true := by rfl)
    (hline : (apos.endLine == cpos.line) = true := by rfl) (hs : starEach [.Tuple [.Name a p2, .Call (.Attribute (.Name y p1) "pop" p3) [.Constant (.int 0) c0 p4] [] p5] kk ctx] X.env = (false, eval (.Tuple [.Name a p2, .Call (.Attribute (.Name y p1) "pop" p3) [.Constant (.int 0) c0 p4] [] p5] kk ctx) X.env) :: starEach [] X.env := by rfl) (hplain : (backTo cpos (starEach [] X.env)).any (·.1) = false := by rfl)
    (hsw : swapsWith (.Call (.Attribute (.Name x npos) "append" apos) [.Tuple [.Name a p2, .Call (.Attribute (.Name y p1) "pop" p3) [.Constant (.int 0) c0 p4] [] p5] kk ctx] [] cpos) none pos.line X.env = pure false := by rfl) :
    MS X (.Expr (.Call (.Attribute (.Name x npos) "append" apos) [.Tuple [.Name a p2, .Call (.Attribute (.Name y p1) "pop" p3) [.Constant (.int 0) c0 p4] [] p5] kk ctx] [] cpos) pos) (sAppPop i j k) := by
  have P := pe_bm PySem.F.plainAttrs_list PySem.F.slot_list_pop PySem.F.type_list_pop mt_popAt hy (pa_cons (pe_int (i := 0) (j := c0) (pos := p4)) pa_nil s1) b1 f1 l1 s1 q1
  have T := pe_tupP (x1 := kk) (pos := ctx) (pa_cons ha (pa_cons P pa_nil s2) s3)
  refine ⟨⟨fun pins s σ H E I h => (ps_expr (pe_bm PySem.F.plainAttrs_list PySem.F.slot_list_append PySem.F.type_list_append mt_append hx (pa_cons T pa_nil hs) hbase hfew hline hs hplain) hsw).run pins s σ H E I ?_⟩,
    fun a c env k h => ?_⟩
  · obtain ⟨y', dr, F, env, re, hm⟩ := h
    obtain ⟨xs, qx, _, hm⟩ := ownL_some hm
    obtain ⟨ys, qy, _, hm⟩ := ownL_some hm
    have hv : ∃ d, gv env k = .v d ∧ i ≠ j ∧ xs.length < 16777216 ∧ popK ys fun y r => (kS X.G y' F E).nx ((env.set j (.l r)).set i (.l (xs ++ [.tuple [d, y]]))) := by
      unfold sVar at hm
      split at hm
      · rename_i d e; exact ⟨d, e, hm⟩
      · exact hm.elim
    obtain ⟨d, qd, hne, hlen, hm⟩ := hv
    obtain ⟨o, g1, px, vs, g2, g3, gz, gr, gf, gh, gd⟩ := re.get qx
    subst g2
    obtain ⟨o2, g4, py, ws, g5, g6, gz2, gr2, gf2, gh2, gd2⟩ := re.get qy
    subst g5
    obtain ⟨o3, g7, v, g8, g9⟩ := re.get (gv_some qd (by simp))
    subst g8
    cases ys with
    | nil => exact hm.elim
    | cons y0 r =>
      cases gr2 with
      | cons ry rr =>
        rename_i v0 vs0
        refine ⟨.ref px, g1, .inl ⟨rfl, _, SqL.of g3⟩, ?_⟩
        refine ⟨v, g7, ?_⟩
        refine ⟨.ref py, g4, .inl ⟨rfl, _, SqL.of g6⟩, ?_⟩
        refine ⟨py, v0 :: vs0, 0, 0, v0, rfl, rfl, g6, by decide, by decide, ?_, rfl, ?_⟩
        · show seqIndex? 0 (v0 :: vs0).length = some 0
          unfold seqIndex?
          simp
        · show _ ≤ _ ∧ _
          have r2 := re.setL (p := py) qy g4 rr (by have := gz2; simp only [List.length_cons] at this; omega)
          refine ⟨by rw [sizeLine_eq]; simp, fun p o to hp => ?_⟩
          have r3 := r2.laid (o := .frz o (.tup [v, v0])) hp
          have qi : (env.set j (.l r))[i]? = some (.l xs) := by rw [List.getElem?_set_ne (Ne.symm hne)]; exact qx
          obtain ⟨p', vs', e1, e2, e3, e4⟩ := r3.ownL qi g1
          cases e1
          have hz : xs.length < sizeLine := by rw [sizeLine_eq]; exact hlen
          refine ⟨px, vs', .ref p, rfl, rfl, e2, by rw [← e4.length]; exact hz, ?_⟩
          have rt : Rv X.G (upd F p (.frz o (.tup [v, v0]))) (.tuple [d, y0]) (.ref p) := Rv.tupNew (r2.nF hp) to (by rw [sizeLine_eq]; simp) (.cons g9 (.cons ry .nil))
          exact hm dr _ σ _ (r3.setL qi g1 (e4.append (.cons rt .nil)) (by rw [List.length_append]; exact hz)) (upd_grow (r2.nF hp))
  · refine ownL_mono (fun xs h1 => ownL_mono (fun ys h2 => ?_) h1) h
    unfold sVar at h2 ⊢
    split
    · rename_i d e
      rw [e] at h2
      obtain ⟨z1, z2, z3⟩ := h2
      refine ⟨z1, z2, ?_⟩
      cases ys with
      | nil => exact z3
      | cons y0 r => exact k.nx _ z3
    · rename_i e
      split at h2
      · rename_i d e2; exact absurd e2 (e d)
      · exact h2
end
end Mi

namespace Mi
open PySem PySem.Spec L2
/-! ### xs + ys of lists as a new list of one's own -/
def sAddL (ma mc : SE) : SL := fun env Q => ma env fun x => mc env fun z => match x, z with
  | .list xs, .list ys => xs.length + ys.length ≤ 16777216 ∧ Q (xs ++ ys)
  | _, _ => False
section
variable {X : Cx} {a c : Expr} {ma mc : SE} {pos : Pos}
theorem mf_add (ha : ME X true a ma) (hc : ME X true c mc) : MF X (.BinOp a .Add c pos) (sAddL ma mc) := by
  refine ⟨⟨fun pins s σ H Q I h => (pe_op op_cat ha.run hc.run).run pins s σ H Q I ?_⟩, fun env P Q k h => ha.mono _ _ _ (fun d h1 => hc.mono _ _ _ (fun d2 h2 => ?_) h1) h⟩
  · obtain ⟨y, dr, F, env, re, hm⟩ := h
    refine ⟨y, dr, F, env, re, ha.mono _ _ _ (fun d1 h1 v1 H1 F1 r1 s1 w1 => ?_) hm⟩
    refine ⟨y, dr, F1, env, r1, hc.mono _ _ _ (fun d2 h2 v2 H2 F2 r2 s2 w2 => ?_) h1⟩
    split at h2
    · rename_i xs ys
      obtain ⟨p, vs, rfl, e1, z1, rv⟩ := (w1.mono s2).list r2
      obtain ⟨p2, ws, rfl, e2, z2, rw2⟩ := w2.list r2
      have hz : xs.length + ys.length ≤ sizeLine := by rw [sizeLine_eq]; exact h2.1
      refine ⟨p, p2, vs, ws, rfl, rfl, e1, e2, by rw [← rv.length, ← rw2.length]; exact hz, fun q hq => ?_⟩
      exact new_lst r2 (s1.trans s2) hq (rv.append rw2) (by rw [List.length_append]; exact hz) h2.2
    · exact h2.elim
  · split at h2
    · exact ⟨h2.1, k _ h2.2⟩
    · exact h2
@[simp] theorem u_sAddL {env : En} {Q : List D → Prop} : sAddL ma mc env Q = (ma env fun x => mc env fun z => match x, z with
  | .list xs, .list ys => xs.length + ys.length ≤ 16777216 ∧ Q (xs ++ ys)
  | _, _ => False) := rfl
end
end Mi

namespace Mi
open PySem PySem.Spec L2
/-! ### x = [.. for k in d ..], d a dict of one's own with int keys, that is locked meanwhile -/
def lkD (kvs : List (Key × D)) : D := .dict ((.bool true, .none) :: kdD kvs)
def asLk : D → Option (List (Key × D))
  | .dict ((.bool true, .none) :: r) => asKs r
  | _ => none
@[simp] theorem asLk_lk (kvs : List (Key × D)) : asLk (lkD kvs) = some kvs := asKs_kd kvs
theorem Vr.asLk {K : Fg} {b : Bool} {y : Cy} {dr : Option Addr} {F H : Hp} {env : En} {σ : L2.St} (re : Re K y dr F env σ H) {d : D} {kvs : List (Key × D)} {v : V} (w : Vr K b F env σ d v) (h : asLk d = some kvs) :
    ∃ a o kws, v = .ref a ∧ F a = some (.frz o (.dK kws)) ∧ Rks K F (kdD kvs) kws := by
  rcases w with w | ⟨_, i, s, e1, e2, e3⟩
  · cases w with
    | dil q r => rw [asKs_eq h] at r; exact ⟨_, _, _, rfl, q, r⟩
    | dic q r =>
      rename_i kvs' kws
      cases r with
      | nil => cases h
      | cons a b => rename_i k d ds v vs; cases k <;> cases h
    | dit q r => cases h
    | _ => cases h
  · cases s with
    | k zs =>
      cases e2
      cases zs with
      | nil => cases h
      | cons p r => obtain ⟨k, d⟩ := p; cases k <;> cases h
    | t zs => cases e2; cases h
    | l zs => cases e2; cases h
    | _ => cases e2
def iKeysL (m : SE) : SI := fun env Q => m env fun d => obK (asLk d) fun kvs => obI (keysI kvs) fun ks => ks.length ≤ 16777216 ∧ Q (dInts ks)
section
variable {X : Cx} {b : Bool} {a c e tg iter elt : Expr} {ma mc me el : SE} {pos : Pos} {g : SG} {t : SB} {src : SI} {ifs : List Expr} {scope : Scope} {own : List (Str × Nat)}
theorem mi_keysL (ha : ME X b a ma) : MI X b tg a (iKeysL ma) := by
  refine ⟨⟨fun pins s σ H R I h => (pi_keys ha.run).run pins s σ H R I ?_⟩, fun env P Q k h => ha.mono _ _ _ (fun d hd => obK_mono (fun kvs h1 => obI_mono (fun ks h2 => ⟨h2.1, k _ h2.2⟩) h1) hd) h⟩
  obtain ⟨y, dr, F, env, re, hm⟩ := h
  refine ⟨y, dr, F, env, re, ha.mono _ _ _ (fun d hd v H' F' r1 s1 w => ?_) hm⟩
  cases q : asLk d with
  | none => rw [q] at hd; exact hd.elim
  | some kvs =>
    rw [q] at hd
    have hd : obI (keysI kvs) _ := hd
    cases q2 : keysI kvs with
    | none => rw [q2] at hd; exact hd.elim
    | some ks =>
      rw [q2] at hd
      obtain ⟨p, o, kws, rfl, e1, e2⟩ := w.asLk r1 q
      have hH : H' p = some (.frz o (.dK kws)) := r1.rf.sub _ _ e1
      have hk : kws.map (·.1) = ks.map Sum.inl := (rks_keys e2).trans (keysI_eq q2)
      have hl : kws.length = ks.length := by have := congrArg List.length hk; simpa using this
      have nd : some p ≠ dr := fun e => by rw [(r1.rf.drw _ e.symm).1] at e1; cases e1
      refine ⟨p, o, rfl, .inl ⟨kws, hH, ?_⟩⟩
      obtain ⟨hz, hd⟩ := hd
      have hd : ∀ J H'' F'' G Y, _ := hd
      refine hd (Itk p o kws) H' F' (fun H1 => H1 p = some (.frz o (.dK kws))) (fun i H1 x H2 => H2 = H1 ∧ ∃ k v, kws[i]? = some (k, v) ∧ x = kV k) r1 s1 (by rw [dInts_len, sizeLine_eq]; exact hz) ?_ ⟨fun _ H1 s => s _ _ e1, fun _ H1 k => k _ _ hH nd⟩ ?_
      · rw [dInts_len, ← hl]
        exact ⟨fun i H hi h => ⟨h, hi⟩, fun H h => ⟨h, Nat.le_refl _⟩, fun i H x H2 _ _ h => h⟩
      · rintro i H1 x H2 hi _ ⟨rfl, k, v, hkv, rfl⟩ y1 dr1 F1 env1 σ1 re1 sm
        have hi2 : i < ks.length := by rw [dInts_len] at hi; exact hi
        have e3 : (kws.map (·.1))[i]? = some k := by rw [List.getElem?_map, hkv]; rfl
        rw [hk, List.getElem?_map, List.getElem?_eq_getElem hi2] at e3
        have e4 : k = .inl ks[i] := (Option.some.inj e3).symm
        subst e4
        exact ⟨F1, Ex.refl, re1, ⟨.int ks[i], dInts_get hi2, .int _⟩, Same.refl _, fun _ h _ => h⟩
/-- the state while the dict at slot j is locked -/
theorem Re.lock {K : Fg} {y : Cy} {dr : Option Addr} {F H : Hp} {env : En} {σ : L2.St} (re : Re K y dr F env σ H) {j : Nat} {kvs : List (Key × D)} {p : Addr} {kws : List (Key × V)} {od : Obj} (h1 : env[j]? = some (.k kvs)) (h2 : σ[j]? = some (some (.ref p))) (h3 : H p = some (.dK kws)) (h4 : Rks K F (kdD kvs) kws) :
    Re K y dr (upd F p (.frz od (.dK kws))) (env.set j (.v (lkD kvs))) σ (upd H p (.frz od (.dK kws))) := by
  obtain ⟨a, e1, _, e3, e4, e5⟩ := (re.slot j _ _ h1 h2).there rfl
  cases e1
  have sF : Same F (upd F p (.frz od (.dK kws))) := upd_grow e3
  have kp : ∀ b, b ≠ p → upd H p (.frz od (.dK kws)) b = H b := fun b hb => upd_ne hb
  refine ⟨⟨fun b u e => ?_, re.rf.sup.trans sF, fun b hb => ?_, fun b u e n => ?_, fun b hb => ?_, fun b hb => ?_, re.rf.drs, re.rf.drn⟩, by rw [List.length_set]; exact re.len, fun i s o g1 g2 => ?_, fun i l a s1 s2 g1 g2 o1 o2 g3 g4 => ?_⟩
  · by_cases hb : b = p
    · subst hb; rw [upd_same] at e ⊢; exact e
    · rw [upd_ne hb] at e ⊢; exact re.rf.sub b u e
  · by_cases hbp : b = p
    · subst hbp; exact .inr e4
    · rw [upd_ne hbp] at hb; exact re.rf.new b hb
  · have hb : b ≠ p := fun z => by rw [z, e4] at e; cases e
    rw [kp b hb]; exact re.rf.gr b u e n
  · have hbp : b ≠ p := fun z => by rw [z, e4] at hb; exact hb rfl
    rw [kp b hbp]; exact re.rf.dom b hb
  · obtain ⟨q1, q2⟩ := re.rf.drw b hb
    have hbp : b ≠ p := fun z => e5 (by rw [← z]; exact hb.symm)
    exact ⟨by rw [upd_ne hbp]; exact q1, (q2.mono sF).at (kp b hbp)⟩
  · rcases own_of_get g1 with ⟨rfl, rfl⟩ | ⟨ne, g1⟩
    · rw [h2] at g2; cases g2
      exact ⟨.ref p, rfl, .dil upd_same (h4.mono sF)⟩
    · refine (re.slot i s o g1 g2).keep sF fun a ha w => ?_
      obtain ⟨c, w1, _, w3, w4, _⟩ := (re.slot i s o g1 g2).there w
      rw [ha] at w1; cases w1
      have : a ≠ p := fun z => by
        subst z
        exact ne (re.sep i j a s _ g1 h1 w rfl (by rw [g2, ha]) h2)
      exact ⟨kp a this, by rw [upd_ne this]; exact w3, w4⟩
  · have back : ∀ {m : Nat} {s : Sl}, (env.set j (.v (lkD kvs)))[m]? = some s → s.own = true → env[m]? = some s := fun {m s} g w => by
      rcases own_of_get g with ⟨_, rfl⟩ | ⟨_, g⟩
      · cases w
      · exact g
    exact re.sep i l a s1 s2 (back g1 o1) (back g2 o2) o1 o2 g3 g4
/-- and back -/
theorem Re.unlock {K : Fg} {y : Cy} {dr : Option Addr} {F F2 H H2 : Hp} {env : En} {σ : L2.St} (re : Re K y dr F env σ H) {j : Nat} {kvs : List (Key × D)} {p : Addr} {kws : List (Key × V)} {od : Obj} (h1 : env[j]? = some (.k kvs)) (h2 : σ[j]? = some (some (.ref p))) (h3 : H p = some (.dK kws)) (h4 : Rks K F (kdD kvs) kws)
    (r2 : Re K y dr F2 (env.set j (.v (lkD kvs))) σ H2) (x : Ex dr (upd F p (.frz od (.dK kws))) (upd H p (.frz od (.dK kws))) F2 H2) :
    ∃ F3, Same F F3 ∧ (∀ c, c ≠ p → F3 c = F2 c) ∧ F3 p = none ∧ Re K y dr F3 env σ (upd H2 p (.dK kws)) := by
  obtain ⟨a, e1, _, e3, e4, e5⟩ := (re.slot j _ _ h1 h2).there rfl
  cases e1
  have f2 : F2 p = some (.frz od (.dK kws)) := x.f _ _ upd_same
  refine ⟨fun c => if c = p then none else F2 c, fun c o e => ?_, fun c hc => if_neg hc, if_pos rfl, ?_⟩
  · have hc : c ≠ p := fun z => by rw [z, e3] at e; cases e
    show (if c = p then none else F2 c) = some o
    rw [if_neg hc]
    exact x.f _ _ (by rw [upd_ne hc]; exact e)
  have g3 : ∀ c, c ≠ p → (fun c => if c = p then none else F2 c : Hp) c = F2 c := fun c hc => if_neg hc
  have gp : (fun c => if c = p then none else F2 c : Hp) p = none := if_pos rfl
  have sF : Same F (fun c => if c = p then none else F2 c) := fun c o e => by
    have hc : c ≠ p := fun z => by rw [z, e3] at e; cases e
    rw [g3 c hc]
    exact x.f _ _ (by rw [upd_ne hc]; exact e)
  generalize hF3 : (fun c => if c = p then none else F2 c : Hp) = F3 at *
  have kp : ∀ b, b ≠ p → upd H2 p (.dK kws) b = H2 b := fun b hb => upd_ne hb
  refine ⟨⟨fun b u e => ?_, re.rf.sup.trans sF, fun b hb => ?_, fun b u e n => ?_, fun b hb => ?_, fun b hb => ?_, r2.rf.drs, r2.rf.drn⟩, re.len, fun i s o q1 q2 => ?_, re.sep⟩
  · have hb : b ≠ p := fun z => by rw [z, gp] at e; cases e
    rw [kp b hb]
    exact r2.rf.sub b u (by rw [← g3 b hb]; exact e)
  · have hbp : b ≠ p := fun z => by rw [z, gp] at hb; exact hb rfl
    exact r2.rf.new b (by rw [← g3 b hbp]; exact hb)
  · have hb : b ≠ p := fun z => by rw [z, e4] at e; cases e
    rw [kp b hb]; exact r2.rf.gr b u e n
  · have hbp : b ≠ p := fun z => by rw [z, e4] at hb; exact hb rfl
    rw [kp b hbp]; exact r2.rf.dom b hb
  · obtain ⟨q1, l, ns, pp, cc, ss, d1, d2, d3⟩ := r2.rf.drw b hb
    have hbp : b ≠ p := fun z => e5 (by rw [← z]; exact hb.symm)
    have hl : l ≠ p := fun z => by rw [z, f2] at d2; cases d2
    exact ⟨by rw [g3 b hbp]; exact q1, l, ns, pp, cc, ss, by rw [kp b hbp]; exact d1, by rw [g3 l hl]; exact d2, d3⟩
  · by_cases hij : i = j
    · subst hij
      rw [h1] at q1; cases q1
      rw [h2] at q2; cases q2
      exact ⟨p, kws, rfl, upd_same, h4.mono sF, gp, e4, e5⟩
    · refine (re.slot i s o q1 q2).keep sF fun a ha w => ?_
      obtain ⟨c, w1, w2, w3, w4, w5⟩ := (re.slot i s o q1 q2).there w
      rw [ha] at w1; cases w1
      have hap : a ≠ p := fun z => by
        subst z
        exact hij (re.sep i j a s _ q1 h1 w rfl (by rw [q2, ha]) h2)
      have q1' : (env.set j (.v (lkD kvs)))[i]? = some s := by rw [List.getElem?_set_ne (Ne.symm hij)]; exact q1
      obtain ⟨c, z1, _, z3, _, _⟩ := (r2.slot i s o q1' q2).there w
      rw [ha] at z1; cases z1
      refine ⟨?_, by rw [g3 a hap]; exact z3, w4⟩
      rw [kp a hap]
      cases q : H a with
      | none => exact absurd q w2
      | some ob => exact x.k a ob (by rw [upd_ne hap]; exact q) w5
end
end Mi

namespace Mi
open PySem PySem.Spec L2
theorem rvs_atom {K : Fg} {F F' : Hp} : ∀ {xs : List D} {vs : List V}, xs.all atomD = true → Rvs K F xs vs → Rvs K F' xs vs
  | [], _, _, r => by cases r; exact .nil
  | d :: xs, _, h, r => by
    rw [List.all_cons, Bool.and_eq_true] at h
    cases r with
    | cons a b => exact .cons (a.atom h.1) (rvs_atom h.2 b)
def sLcD (i j : Nat) (own : List Nat) (g : SG) (t : SB) (el : SE) : SS := fun K env => ownK env j fun kvs => i ≠ j ∧ sLc (iKeysL (sVar j)) own g t el (env.set j (.v (lkD kvs))) fun xs => xs.all atomD = true ∧ K.nx (env.set i (.v (.list xs)))
section
variable {X : Cx} {b : Bool} {a c e tg elt : Expr} {pos : Pos} {g : SG} {t : SB} {el : SE} {ifs : List Expr} {scope : Scope} {own : List (Str × Nat)}
theorem ms_lcD {i j : Nat} {x z : Str} {py spos npos : Pos} (hc : X.calm = true) (hN : X.N.Nodup) (hy : X.N[i]? = some x) (hyl : X.env.scope.names.lookup x = some .local)
    (hsw : swapsWith (.ListComp elt [⟨tg, .Name z npos, ifs, 0⟩] scope pos) (some (.Name x py)) spos.line X.env = pure true) (hv : PE X (.Name z npos) (tVar j)) (ok : BlkOk X.N X.env.scope scope own)
    (hg : ∀ (s : Shared) (H : Hp) (C : Addr) (cl : List (Str × Addr)) (fp : List Addr), MG (X.blk s H scope (compEnvC scope cl C X.env) fp) (own.map (·.2)) tg g)
    (ht : ∀ (s : Shared) (H : Hp) (C : Addr) (cl : List (Str × Addr)) (fp : List Addr), MTs (X.blk s H scope (compEnvC scope cl C X.env) fp) ifs t)
    (he : ∀ (s : Shared) (H : Hp) (C : Addr) (cl : List (Str × Addr)) (fp : List Addr), ME (X.blk s H scope (compEnvC scope cl C X.env) fp) false elt el) (hs : ∀ x, foldedSetIterable (.Name z npos) X.env x = pure x := by intro _; rfl) :
    MS X (.Assign [.Name x py] (.ListComp elt [⟨tg, .Name z npos, ifs, 0⟩] scope pos) spos) (sLcD i j (own.map (·.2)) g t el) := by
  have hi : MI X true tg (.Name z npos) (iKeysL (sVar j)) := mi_keysL (me_var hv)
  refine ⟨⟨fun pins s σ H E I h => (ps_lock (ps_setLc (te := lE X.G false el) (tt := lT X.G t) (g := lG X.G (own.map (·.2)) g) (wi := lI X.G true (iKeysL (sVar j))) hc hN hy hyl hsw hi.run ok (fun a b c d f => (hg a b c d f).run) (fun a b c d f => (ht a b c d f).run) (fun a b c d f => (he a b c d f).run) hs)).run pins s σ H E I ?_⟩, fun a c env k h => ?_⟩
  · obtain ⟨y, dr, F, env, re, hm⟩ := h
    obtain ⟨kvs, q, _, hm⟩ := ownK_some hm
    obtain ⟨o, g1, p, kws, g2, g3, g4, g5⟩ := re.get q
    subst g2
    obtain ⟨hne, hm⟩ := hm
    refine ⟨p, .dK kws, g3, trivial, fun od => ?_⟩
    refine lc_red hi hg ht he ?_
    have r1 := re.lock (od := od) q g1 g3 g4
    refine ⟨y, dr, _, _, r1, lc_mono hi hg ht he _ _ _ (fun xs hx p' vs H' F' r2 x2 hp' fr rv hz => ?_) hm⟩
    obtain ⟨hat, hx⟩ := hx
    have hfz : H' p = some (.frz od (.dK kws)) := r2.rf.sub _ _ (x2.f _ _ upd_same)
    have hpp : p' ≠ p := fun z => by rw [z, hfz] at hp'; cases hp'
    obtain ⟨F3, s3, f3, f4, r3⟩ := re.unlock q g1 g3 g4 r2 x2
    have fr3 : Free y dr F3 env σ p' := ⟨by rw [f3 p' hpp]; exact fr.nF, fr.nH, fr.nd, fun k s h1 h2 h3 => by
      by_cases hk : k = j
      · subst hk
        rw [g1] at h3
        exact hpp (by cases h3; rfl)
      · exact fr.no k s (by rw [List.getElem?_set_ne (Ne.symm hk)]; exact h1) h2 h3⟩
    have hp3 : upd H' p (.dK kws) p' = some (.lst vs) := by rw [upd_ne hpp]; exact hp'
    refine ⟨hfz, hx dr _ _ _ ((r3.freeze fr3 hp3).putV (Rv.lstNew fr3.nF hz (rvs_atom hat rv))) (s3.trans (Ex.fz (dr := dr) (H := H') fr3.nF).f)⟩
  · exact ownK_mono (fun kvs h1 => ⟨h1.1, lc_mono hi hg ht he _ _ _ (fun xs h2 => ⟨h2.1, k.nx _ h2.2⟩) h1.2⟩) h
@[simp] theorem u_sLcD {i j : Nat} {own : List Nat} {K : Ks} {env : En} : sLcD i j own g t el K env = (ownK env j fun kvs => i ≠ j ∧ sLc (iKeysL (sVar j)) own g t el (env.set j (.v (lkD kvs))) fun xs => xs.all atomD = true ∧ K.nx (env.set i (.v (.list xs)))) := rfl
@[simp] theorem u_iKeysL {m : SE} {env : En} {Q : List D → Prop} : iKeysL m env Q = (m env fun d => obK (asLk d) fun kvs => obI (keysI kvs) fun ks => ks.length ≤ 16777216 ∧ Q (dInts ks)) := rfl
end
/-! ### {name: True} as a dict of one's own -/
def sDone (i a : Nat) : SS := fun K env => sVar a env fun z => obY (keyOf z) fun k => K.nx (env.set i (.k [(k, .bool true)]))
section
variable {X : Cx} {pos : Pos}
theorem ms_dOne {i a c0 : Nat} {x z : Str} {pos' dpos npos bpos : Pos} (hN : X.N.Nodup) (hi : X.N[i]? = some x) (hx : Loc X.env.scope x) (hz : PE X (.Name z npos) (tVar a)) (hs : swapsWith (.Dict [some (.Name z npos)] [.Constant (.bool true) c0 bpos] dpos) (some (.Name x pos')) pos.line X.env = pure false := by rfl)
    (hf : X.fn x = true ∨ X.env.scope.names.lookup x = some .local := by first | exact .inl rfl | exact .inr rfl | assumption) : MS X (.Assign [.Name x pos'] (.Dict [some (.Name z npos)] [.Constant (.bool true) c0 bpos] dpos) pos) (sDone i a) := by
  have P := pe_disp (pos := dpos) (pps_cons (pos := dpos) hz (pe_bl (X := X) (b := true) (j := c0) (pos := bpos)) pps_nil) rfl rfl (by simp) (by simp)
  refine ⟨⟨fun pins s σ H E I h => (ps_set hN hi hx P hs hf).run pins s σ H E I ?_⟩, fun a c env k h => ?_⟩
  · obtain ⟨y, dr, F, env, re, hm⟩ := h
    have hv : ∃ d, gv env a = .v d ∧ obY (keyOf d) fun k => (kS X.G y F E).nx (env.set i (.k [(k, .bool true)])) := by
      unfold sDone sVar at hm
      split at hm
      · rename_i d e; exact ⟨d, e, hm⟩
      · exact hm.elim
    obtain ⟨d, qd, hm⟩ := hv
    obtain ⟨o3, g7, v, g8, g9⟩ := re.get (gv_some qd (by simp))
    subst g8
    cases q2 : keyOf d with
    | none => rw [q2] at hm; exact hm.elim
    | some k =>
      rw [q2] at hm
      intro p hp
      have fr := re.free hp
      refine ⟨v, g7, ?_⟩
      show _ ∧ _
      have ev : v = kV k := keyV (b := false) (env := env) (σ := σ) k q2 (.inl g9)
      refine ⟨upd_same, [(k, .bl true)], by rw [ev]; rfl, by simp, ?_⟩
      have e1 : mergeK [] [(k, V.bl true)] = [(k, V.bl true)] := rfl
      rw [e1]
      have e2 : upd (upd H p (.dK [])) p (.dK [(k, V.bl true)]) = upd H p (.dK [(k, V.bl true)]) := by
        funext c
        by_cases hc : c = p
        · subst hc; rw [upd_same, upd_same]
        · rw [upd_ne hc, upd_ne hc, upd_ne hc]
      show E.nx (σ.set i (some (.ref p))) (upd (upd H p (.dK [])) p (.dK [(k, V.bl true)]))
      rw [e2]
      exact hm dr F _ _ ((re.grown hp).put ⟨p, [(k, .bl true)], rfl, upd_same, .cons (.bl true) .nil, fr.nF, fr.nH, fr.nd⟩ fun _ a e j s' _ h1 h2 h3 => by cases e; exact fr.no j s' h1 h2 h3) (Same.refl _)
  · unfold sDone sVar at *
    split
    · rename_i d e
      rw [e] at h
      exact obY_mono (fun q h2 => k.nx _ h2) h
    · rename_i e
      split at h
      · rename_i d e2; exact absurd e2 (e d)
      · exact h
@[simp] theorem u_sDone {i a : Nat} {K : Ks} {env : En} : sDone i a K env = (sVar a env fun z => obY (keyOf z) fun k => K.nx (env.set i (.k [(k, .bool true)]))) := rfl
end
end Mi

namespace Mi
open PySem PySem.Spec L2
/-! ### rows of texts; is of bools; a demonic sieve -/
@[simp] theorem is_bb {i j : Bool} : isD (.bool i) (.bool j) = some (.bool (decide (i = j))) := rfl
@[simp] theorem isn_bb {i j : Bool} : isnD (.bool i) (.bool j) = some (.bool (!decide (i = j))) := rfl
def ltS (a b : Str) : Bool := decide (a.cps.toList < b.cps.toList)
@[simp] theorem lt_s {x z : Str} : ltD (.str x) (.str z) = some (.bool (ltS x z)) := rfl
def dS (ss : List Str) : List D := ss.map PyData.str
theorem dS_nil : dS [] = [] := rfl
theorem dS_cons (s : Str) (ss : List Str) : dS (s :: ss) = .str s :: dS ss := rfl
@[simp] theorem dS_len {ss : List Str} : (dS ss).length = ss.length := List.length_map _
theorem canLay_strs : ∀ ss : List Str, (∀ s ∈ ss, PyData.strOk s = true) → PyData.canLayAll0 (dS ss) = true
  | [], _ => rfl
  | x :: xs, h => by
    show (PyData.canLay0 (.str x) && PyData.canLayAll0 (dS xs)) = true
    rw [canLay_strs xs fun s hs => h s (List.mem_cons_of_mem _ hs), Bool.and_true]
    exact h x (List.mem_cons_self ..)
theorem depth_strs : ∀ ss : List Str, PyData.depthAll (dS ss) = 0
  | [] => rfl
  | x :: xs => by
    show max (PyData.depth (.str x)) (PyData.depthAll (dS xs)) = 0
    rw [depth_strs xs]; rfl
theorem shaped_tS {ss : List Str} (h : ∀ s ∈ ss, PyData.strOk s = true) : SeqAt.shaped (.tuple (dS ss)) = true := by
  have h2 : (PyData.tuple (dS ss)).depth ≤ 64 := by show PyData.depthAll (dS ss) + 1 ≤ 64; rw [depth_strs]; decide
  exact Bool.and_eq_true_iff.mpr ⟨canLay_strs ss h, decide_eq_true h2⟩
theorem shaped_lS {ss : List Str} (h : ∀ s ∈ ss, PyData.strOk s = true) : SeqAt.shaped (.list (dS ss)) = true := by
  have h2 : (PyData.list (dS ss)).depth ≤ 64 := by show PyData.depthAll (dS ss) + 1 ≤ 64; rw [depth_strs]; decide
  exact Bool.and_eq_true_iff.mpr ⟨canLay_strs ss h, decide_eq_true h2⟩
theorem shaped_s {s : Str} (h : PyData.strOk s = true) : SeqAt.shaped (.str s) = true := by
  have h2 : (PyData.str s).depth ≤ 64 := by show (0 : Nat) ≤ 64; decide
  exact Bool.and_eq_true_iff.mpr ⟨h, decide_eq_true h2⟩
theorem any_strs (s : Str) : ∀ ss : List Str, ((dS ss).any fun z => PyData.eqv z (.str s)) = decide (s ∈ ss)
  | [] => rfl
  | x :: xs => by
    show (PyData.eqv (.str x) (.str s) || (dS xs).any fun z => PyData.eqv z (.str s)) = _
    rw [any_strs s xs]
    show ((x == s) || decide (s ∈ xs)) = _
    by_cases h1 : s = x
    · subst h1; simp
    · have : ¬ x = s := fun z => h1 z.symm
      simp [h1, this]
theorem inB_lS {s : Str} {ss : List Str} (h : PyData.strOk s = true) (h2 : ∀ s ∈ ss, PyData.strOk s = true) : inB (.str s) (.list (dS ss)) = some (decide (s ∈ ss)) := by
  rw [← any_strs s ss]
  exact if_pos ⟨shaped_s h, shaped_lS h2⟩
theorem inB_tS {s : Str} {ss : List Str} (h : PyData.strOk s = true) (h2 : ∀ s ∈ ss, PyData.strOk s = true) : inB (.str s) (.tuple (dS ss)) = some (decide (s ∈ ss)) := by
  rw [← any_strs s ss]
  exact if_pos ⟨shaped_s h, shaped_tS h2⟩
theorem in_lS {s : Str} {ss : List Str} (h : PyData.strOk s = true) (h2 : ∀ s ∈ ss, PyData.strOk s = true) : inD (.str s) (.list (dS ss)) = some (.bool (decide (s ∈ ss))) := by unfold inD; rw [inB_lS h h2]; rfl
theorem in_tS {s : Str} {ss : List Str} (h : PyData.strOk s = true) (h2 : ∀ s ∈ ss, PyData.strOk s = true) : inD (.str s) (.tuple (dS ss)) = some (.bool (decide (s ∈ ss))) := by unfold inD; rw [inB_tS h h2]; rfl
theorem nin_lS {s : Str} {ss : List Str} (h : PyData.strOk s = true) (h2 : ∀ s ∈ ss, PyData.strOk s = true) : ninD (.str s) (.list (dS ss)) = some (.bool (!decide (s ∈ ss))) := by unfold ninD; rw [inB_lS h h2]; rfl
theorem nin_tS {s : Str} {ss : List Str} (h : PyData.strOk s = true) (h2 : ∀ s ∈ ss, PyData.strOk s = true) : ninD (.str s) (.tuple (dS ss)) = some (.bool (!decide (s ∈ ss))) := by unfold ninD; rw [inB_tS h h2]; rfl
theorem pl_strs {n : Nat} {ss : List Str} (h : ss.length ≤ 16777216) : pl (n + 2) (.list (dS ss)) = true ∧ pl (n + 2) (.tuple (dS ss)) = true := by
  have : (dS ss).all (pl (n + 1)) = true := by
    rw [List.all_eq_true]
    intro d hd
    obtain ⟨i, _, rfl⟩ := List.mem_map.mp hd
    rfl
  simp only [pl]
  rw [this]
  simp
  exact h
/-- a sieve that nobody foresees: some row of the row's members, in their order -/
theorem lc_sub {α : Type} {enc : α → D} {g : SG} {t : SB} {el : SE} {env : En} {f : α → D} : ∀ (xs : List α) (Q : List D → Prop),
    (∀ a ∈ xs, ∀ (R : D → Prop) (S : Prop), R (f a) → S → g (enc a) env fun e1 => t e1 fun k => if k = true then el e1 R else S) → (∀ zs : List α, zs.Sublist xs → Q (zs.map f)) → lcGo g t el env (xs.map enc) Q
  | [], Q, _, h => h [] (List.Sublist.refl _)
  | a :: xs, Q, hs, h => hs a (by simp) _ _
      (lc_sub xs _ (fun b hb => hs b (by simp [hb])) fun zs hz => h (a :: zs) (hz.cons_cons a))
      (lc_sub xs _ (fun b hb => hs b (by simp [hb])) fun zs hz => h zs (hz.cons a))
/-! neighbours -/
theorem zipL_map {α β : Type} (f : α → D) (g : β → D) : ∀ (xs : List α) (ys : List β), zipL (xs.map f) (ys.map g) = (xs.zip ys).map fun p => .tuple [f p.1, g p.2]
  | [], _ => by simp [zipL]
  | _ :: _, [] => by simp [zipL]
  | x :: xs, y :: ys => by
    show PyData.tuple [f x, g y] :: zipL (xs.map f) (ys.map g) = _
    rw [zipL_map f g xs ys]; rfl
theorem cut_1 {α : Type} (xs : List α) : cut xs (some 1) none = xs.drop 1 := cut_from (by omega)
def pairs {α : Type} (xs : List α) : List (α × α) := xs.zip (xs.drop 1)
theorem zipL_pairs {α : Type} (f : α → D) (xs : List α) : zipL (xs.map f) (cut (xs.map f) (some 1) none) = (pairs xs).map fun p => .tuple [f p.1, f p.2] := by
  rw [cut_1, ← List.map_drop, zipL_map]; rfl
theorem pairs_all {α : Type} {R : α → α → Prop} : ∀ {xs : List α}, xs.Pairwise R → ∀ p ∈ pairs xs, R p.1 p.2
  | [], _, p, hp => by cases hp
  | [_], _, p, hp => by cases hp
  | a :: b :: xs, h, p, hp => by
    have e : pairs (a :: b :: xs) = (a, b) :: pairs (b :: xs) := rfl
    rw [e] at hp
    rcases List.mem_cons.mp hp with rfl | hp
    · exact (List.pairwise_cons.mp h).1 b (by simp)
    · exact pairs_all (List.pairwise_cons.mp h).2 p hp
end Mi

namespace Mi
open PySem PySem.Spec L2
/-! ### dicts that stay as they are: locked for good -/
def tFrz (t : TS) : TS := fun E σ H => ∃ d u, H d = some u ∧ Mut (some u) ∧ ∀ od, t E σ (upd H d (.frz od u))
def tFrzE (t : TE) : TE := fun σ H Q => t σ H fun v H' => ∃ d u, H' d = some u ∧ Mut (some u) ∧ ∀ od, Q v (upd H' d (.frz od u))
section
variable {X : Cx} {st : Stmt}
theorem ps_frz {t : TS} (h : PS X st t) : PS X st (tFrz t) := by
  refine ⟨fun pins s σ H D I hw => ?_⟩
  obtain ⟨d, u, hd, mu, hw⟩ := hw
  obtain ⟨od, I1⟩ := I.lock hd mu
  exact h.run pins s σ _ D I1 (hw od)
theorem pe_frz {e : Expr} {t : TE} (h : PE X e t) : PE X e (tFrzE t) := by
  refine ⟨fun pins s σ H Q I hw => ?_⟩
  refine thn (h.run pins s σ H _ I hw) fun v s1 ⟨x, H1, I1, r, d, u, hd, mu, q⟩ => ?_
  obtain ⟨od, I2⟩ := I1.lock hd mu
  exact ⟨x, _, I2, r, q od⟩
end
/-- an own dict is frozen ahead of the statement -/
def fzL (i : Nat) (env : En) : En := match gv env i with
  | .k kvs => env.set i (.v (lkD kvs))
  | _ => env
def sFzD (i : Nat) (m : SS) : SS := fun K env => m K (fzL i env)
theorem ms_fzD {X : Cx} {st : Stmt} {m : SS} (i : Nat) (h : MS X st m) : MS X st (sFzD i m) := by
  refine ⟨⟨fun pins s σ H E I hq => ?_⟩, fun a c env k hq => h.mono _ _ _ k hq⟩
  obtain ⟨y, dr, F, env, re, hm⟩ := hq
  have hm : m _ (fzL i env) := hm
  cases q0 : gv env i with
  | k kvs =>
    have e0 : fzL i env = env.set i (.v (lkD kvs)) := by unfold fzL; rw [q0]
    rw [e0] at hm
    have q := gv_k q0
    refine (ps_frz h.run).run pins s σ H E I ?_
    obtain ⟨o, g1, p, kws, g2, g3, g4, g5⟩ := re.get q
    subst g2
    refine ⟨p, .dK kws, g3, trivial, fun od => ?_⟩
    have r1 := re.lock (od := od) q g1 g3 g4
    obtain ⟨a, e1, _, e3, _, _⟩ := (re.slot i _ _ q g1).there rfl
    cases e1
    exact ⟨y, dr, _, _, r1, h.mono _ _ _ (kS_mono (upd_grow e3)) hm⟩
  | _ =>
    have e0 : fzL i env = env := by unfold fzL; rw [q0]
    rw [e0] at hm
    exact h.run.run pins s σ H E I ⟨y, dr, F, env, re, hm⟩
/-! ### a new dict -/
abbrev SK := En → (List (Key × D) → Prop) → Prop
def lFK (K : Fg) (m : SK) : TE := fun σ H Q => ∃ y dr F env, Re K y dr F env σ H ∧ m env fun kvs => ∀ p kws H' F', Re K y dr F' env σ H' → Ex dr F H F' H' → H p = none → H' p = some (.dK kws) → Free y dr F' env σ p → Rks K F' (kdD kvs) kws → Q (.ref p) H'
structure MK (X : Cx) (e : Expr) (m : SK) : Prop where
  run : PE X e (lFK X.G m)
  mono : ∀ env (P Q : List (Key × D) → Prop), (∀ d, P d → Q d) → m env P → m env Q
/-- a new object's address, locked -/
theorem Re.lockNew {K : Fg} {y : Cy} {dr : Option Addr} {F H : Hp} {env : En} {σ : L2.St} {p : Addr} {kws : List (Key × V)} {od : Obj} (re : Re K y dr F env σ H) (hp : H p = some (.dK kws)) (fr : Free y dr F env σ p) :
    Re K y dr (upd F p (.frz od (.dK kws))) env σ (upd H p (.frz od (.dK kws))) := by
  have sF : Same F (upd F p (.frz od (.dK kws))) := upd_grow fr.nF
  have kp : ∀ b, b ≠ p → upd H p (.frz od (.dK kws)) b = H b := fun b hb => upd_ne hb
  refine ⟨⟨fun b u e => ?_, re.rf.sup.trans sF, fun b hb => ?_, fun b u e n => ?_, fun b hb => ?_, fun b hb => ?_, re.rf.drs, re.rf.drn⟩, re.len, fun i s o g1 g2 => ?_, re.sep⟩
  · by_cases hb : b = p
    · subst hb; rw [upd_same] at e ⊢; exact e
    · rw [upd_ne hb] at e ⊢; exact re.rf.sub b u e
  · by_cases hbp : b = p
    · subst hbp; exact .inr fr.nH
    · rw [upd_ne hbp] at hb; exact re.rf.new b hb
  · have hb : b ≠ p := fun z => by rw [z, fr.nH] at e; cases e
    rw [kp b hb]; exact re.rf.gr b u e n
  · have hbp : b ≠ p := fun z => by rw [z, fr.nH] at hb; exact hb rfl
    rw [kp b hbp]; exact re.rf.dom b hb
  · obtain ⟨q1, q2⟩ := re.rf.drw b hb
    have hbp : b ≠ p := fun z => fr.nd (by rw [← z]; exact hb.symm)
    exact ⟨by rw [upd_ne hbp]; exact q1, (q2.mono sF).at (kp b hbp)⟩
  · refine (re.slot i s o g1 g2).keep sF fun a ha w => ?_
    obtain ⟨c, w1, _, w3, w4, _⟩ := (re.slot i s o g1 g2).there w
    rw [ha] at w1; cases w1
    have : a ≠ p := fun z => by
      subst z
      exact fr.no i s g1 w (by rw [g2, ha])
    exact ⟨kp a this, by rw [upd_ne this]; exact w3, w4⟩
def sFk (m : SK) : SE := fun env Q => m env fun kvs => Q (lkD kvs)
section
variable {X : Cx} {b b' : Bool} {a c e f o tg iter : Expr} {ma mc me mo mi mv : SE} {pos apos cpos npos : Pos}
/-- a new dict that is never changed -/
theorem me_fk {m : SK} (h : MK X e m) : ME X b e (sFk m) := by
  refine ⟨⟨fun pins s σ H Q I hq => (pe_frz h.run).run pins s σ H Q I ?_⟩, fun env P Q k hp => h.mono _ _ _ (fun d h1 => k _ h1) hp⟩
  obtain ⟨y, dr, F, env, re, hm⟩ := hq
  refine ⟨y, dr, F, env, re, h.mono _ _ _ (fun kvs hd p kws H' F' r1 s1 hn hp fr rv => ?_) hm⟩
  refine ⟨p, .dK kws, hp, trivial, fun od => ?_⟩
  have sF : Same F' (upd F' p (.frz od (.dK kws))) := upd_grow fr.nF
  refine hd _ _ _ (r1.lockNew hp fr) ⟨s1.f.trans sF, fun c o e n => ?_⟩ (.inl (.dil upd_same (rv.mono sF)))
  have hc : c ≠ p := fun z => ?_
  · rw [upd_ne hc]; exact s1.k c o e n
  · subst z
    rw [hn] at e; cases e
theorem Ex.none {dr : Option Addr} {F H F' H' : Hp} {p : Addr} (x : Ex dr F H F' H') (nd : some p ≠ dr) (hp : H' p = none) : H p = none := by
  cases q : H p with
  | none => rfl
  | some o => have := x.k p o q nd; rw [hp] at this; cases this
def sOwnD (i : Nat) (m : SK) : SS := fun K env => m env fun kvs => K.nx (env.set i (.k kvs))
theorem ms_ownD {i : Nat} {x : Str} {pos' : Pos} {ml : SK} (hN : X.N.Nodup) (hi : X.N[i]? = some x) (hx : Loc X.env.scope x) (ha : MK X a ml) (hs : swapsWith a (some (.Name x pos')) pos.line X.env = pure false := by rfl)
    (hf : X.fn x = true ∨ X.env.scope.names.lookup x = some .local := by first | exact .inl rfl | exact .inr rfl | assumption) : MS X (.Assign [.Name x pos'] a pos) (sOwnD i ml) := by
  refine ⟨⟨fun pins s σ H E I h => (ps_set hN hi hx ha.run hs hf).run pins s σ H E I ?_⟩, fun a c env k h => ha.mono _ _ _ (fun _ q => k.nx _ q) h⟩
  obtain ⟨y, dr, F, env, re, hm⟩ := h
  refine ⟨y, dr, F, env, re, ha.mono _ _ _ (fun kvs hd p kws H' F' r1 s1 hn hp fr rv => ?_) hm⟩
  exact hd dr F' _ H' (r1.put ⟨p, kws, rfl, hp, rv, fr.nF, fr.nH, fr.nd⟩ fun _ a e j s' _ h1 h2 h3 => by cases e; exact fr.no j s' h1 h2 h3) s1.f
/-! {} -/
def sDnil : SK := fun _ Q => Q []
theorem mk_nil : MK X (.Dict [] [] pos) sDnil := by
  refine ⟨⟨fun pins s σ H Q I hq => pe_dnewK.run pins s σ H Q I ?_⟩, fun env P Q k hp => k _ hp⟩
  obtain ⟨y, dr, F, env, re, hm⟩ := hq
  exact fun p hp => hm p [] _ F (re.grown hp) (Ex.grown hp) hp upd_same (re.free hp) .nil
/-! dict of a list of pairs -/
def pairsOf : List D → Option (List (Key × D))
  | [] => some []
  | .tuple [k, d] :: r => (keyOf k).bind fun k => (pairsOf r).map fun l => (k, d) :: l
  | _ :: _ => none
def mergeG (kvs more : List (Key × D)) : List (Key × D) := more.foldl (fun acc kv => putG acc kv.1 kv.2) kvs
def sPairs (m : SE) : SK := fun env Q => m env fun d => match d with
  | .list xs => obK (pairsOf xs) fun kvs => Q (mergeG [] kvs)
  | _ => False
theorem rks_merge {K : Fg} {F : Hp} : ∀ {more : List (Key × D)} {mws : List (Key × V)} {kvs : List (Key × D)} {kws : List (Key × V)}, Rks K F (kdD more) mws → Rks K F (kdD kvs) kws → Rks K F (kdD (mergeG kvs more)) (mergeK kws mws)
  | [], _, _, _, h, h2 => by cases h; exact h2
  | (k, d) :: r, mws, kvs, kws, h, h2 => by
    obtain ⟨k', v, vs, e, rfl, rv, h3⟩ := rks_inv h
    have e := kD_inj e
    subst e
    show Rks K F (kdD (mergeG (putG kvs k d) r)) (mergeK (putK kws k v) vs)
    exact rks_merge h3 (rks_put rv h2)
theorem pairs_rvs {K : Fg} {y : Cy} {dr : Option Addr} {F H : Hp} {env : En} {σ : L2.St} (re : Re K y dr F env σ H) : ∀ {xs : List D} {vs : List V} {kvs : List (Key × D)}, pairsOf xs = some kvs → Rvs K F xs vs → ∃ (ps : List Addr) (kws : List (Key × V)), vs = ps.map V.ref ∧ Paired (fun p kv => SqT K H p [kV kv.1, kv.2]) ps kws ∧ Rks K F (kdD kvs) kws
  | [], _, kvs, h, r => by
    cases r; cases h
    exact ⟨[], [], rfl, .nil, .nil⟩
  | x :: xs, vs, kvs, h, r => by
    cases r with
    | cons w rr =>
      cases x with
      | tuple zs =>
        match zs, h, w with
        | [k, d], h, w =>
          have h : (keyOf k).bind (fun k => (pairsOf xs).map fun l => (k, d) :: l) = some kvs := h
          cases q : keyOf k with
          | none => rw [q] at h; cases h
          | some k2 =>
            rw [q] at h
            have h : (pairsOf xs).map (fun l => (k2, d) :: l) = some kvs := h
            cases q2 : pairsOf xs with
            | none => rw [q2] at h; cases h
            | some l =>
              rw [q2] at h
              cases h
              obtain ⟨ps, kws, rfl, h1, h2⟩ := pairs_rvs re q2 rr
              cases w with
              | tup s1 s2 s3 =>
                cases s3 with
                | cons wk wd =>
                  cases wd with
                  | cons wd wn =>
                    cases wn
                    have e := keyOf_eq q
                    subst e
                    have ek : ∀ {v}, Rv K F (kD k2) v → v = kV k2 := fun {v} w => by
                      cases k2 with
                      | inl i => cases w; rfl
                      | inr s => cases w; rfl
                    have := ek wk
                    subst this
                    exact ⟨_ :: ps, (k2, _) :: kws, rfl, .cons (re_tuple re s1) h1, .cons wd h2⟩
        | [], h, w => cases h
        | [_], h, w => cases h
        | _ :: _ :: _ :: _, h, w => cases h
      | _ => cases h
theorem mk_pairs {p : Pos} (hc : X.calm = true) (hg : Gl X "dict") (hm : X.mg "dict" = none) (ha : ME X true a ma) (he : starEach [a] X.env = (false, eval a X.env) :: starEach [] X.env := by rfl) (hpl : (backTo pos (starEach [] X.env)).any (·.1) = false := by rfl) :
    MK X (.Call (.Name "dict" p) [a] [] pos) (sPairs ma) := by
  refine ⟨⟨fun pins s σ H Q I hq => (pe_callTy (call_dictP hc) hg hm (by decide +kernel) (pa_cons ha.run pa_nil he) (by decide) (by decide) he hpl).run pins s σ H Q I ?_⟩, fun env P Q k hp => ha.mono _ _ _ (fun d h1 => ?_) hp⟩
  · obtain ⟨y, dr, F, env, re, hm⟩ := hq
    refine ⟨y, dr, F, env, re, ha.mono _ _ _ (fun d1 h1 v1 H1 F1 r1 s1 w1 => ?_) hm⟩
    cases d1 with
    | list xs =>
      have h1 : obK (pairsOf xs) _ := h1
      cases q : pairsOf xs with
      | none => rw [q] at h1; exact h1.elim
      | some kvs =>
        rw [q] at h1
        obtain ⟨l, vs, rfl, hl, hz, rv, nd, _⟩ := w1.listD r1
        obtain ⟨ps, kws, rfl, h2, h3⟩ := pairs_rvs r1 q rv
        exact ⟨l, ps, kws, rfl, SqL.of hl, h2, fun p2 hp2 => h1 p2 _ _ F1 (r1.grown hp2) (s1.trans (Ex.grown hp2)) (s1.none (r1.free hp2).nd hp2) upd_same (r1.free hp2) (rks_merge h3 .nil)⟩
    | _ => exact h1.elim
  · cases d with
    | list xs => exact obK_mono (fun kvs h => k _ h) h1
    | _ => exact h1.elim
/-! k in d, k not in d -/
def sDin (n : Bool) (mi mo : SE) : SE := fun env Q => mi env fun z => mo env fun x => obK (asK x) fun kvs => obY (keyOf z) fun k => Q (.bool (if n then !(getG kvs k).isSome else (getG kvs k).isSome))
theorem din_red {σ : L2.St} {H : Hp} {Q : VK} (hi : ME X true e mi) (ho : ME X true o mo) (h : lE X.G b' (sDin false mi mo) σ H Q) : tDIn (lE X.G true mi) (lE X.G true mo) σ H Q := by
  obtain ⟨y, dr, F, env, re, hm⟩ := h
  refine ⟨y, dr, F, env, re, hi.mono _ _ _ (fun d2 h2 v2 H2 F2 r2 s2 w2 => ?_) hm⟩
  refine ⟨y, dr, F2, env, r2, ho.mono _ _ _ (fun d1 h1 v1 H1 F1 r1 s1 w1 => ?_) h2⟩
  cases q : asK d1 with
  | none => rw [q] at h1; exact h1.elim
  | some kvs =>
    rw [q] at h1
    have h1 : obY (keyOf d2) _ := h1
    obtain ⟨p, kws, rfl, e1, e2⟩ := w1.asK r1 q
    cases q2 : keyOf d2 with
    | none => rw [q2] at h1; exact h1.elim
    | some k =>
      rw [q2] at h1
      have h1 : ∀ v H' F', _ := h1
      rcases rks_get k e2 with ⟨d, v, g1, g2, g3⟩ | ⟨g1, g2⟩
      · rw [g1] at h1
        exact ⟨p, some v, rfl, .inl ⟨kws, k, e1, keyV k q2 (w2.mono s1), g2.symm⟩, h1 _ H1 F1 r1 (s2.trans s1) (.inl (.bl _))⟩
      · rw [g1] at h1
        exact ⟨p, none, rfl, .inl ⟨kws, k, e1, keyV k q2 (w2.mono s1), g2.symm⟩, h1 _ H1 F1 r1 (s2.trans s1) (.inl (.bl _))⟩
theorem dnin_red {σ : L2.St} {H : Hp} {Q : VK} (hi : ME X true e mi) (ho : ME X true o mo) (h : lE X.G b' (sDin true mi mo) σ H Q) : tDNotIn (lE X.G true mi) (lE X.G true mo) σ H Q := by
  obtain ⟨y, dr, F, env, re, hm⟩ := h
  refine ⟨y, dr, F, env, re, hi.mono _ _ _ (fun d2 h2 v2 H2 F2 r2 s2 w2 => ?_) hm⟩
  refine ⟨y, dr, F2, env, r2, ho.mono _ _ _ (fun d1 h1 v1 H1 F1 r1 s1 w1 => ?_) h2⟩
  cases q : asK d1 with
  | none => rw [q] at h1; exact h1.elim
  | some kvs =>
    rw [q] at h1
    have h1 : obY (keyOf d2) _ := h1
    obtain ⟨p, kws, rfl, e1, e2⟩ := w1.asK r1 q
    cases q2 : keyOf d2 with
    | none => rw [q2] at h1; exact h1.elim
    | some k =>
      rw [q2] at h1
      have h1 : ∀ v H' F', _ := h1
      rcases rks_get k e2 with ⟨d, v, g1, g2, g3⟩ | ⟨g1, g2⟩
      · rw [g1] at h1
        exact ⟨p, some v, rfl, .inl ⟨kws, k, e1, keyV k q2 (w2.mono s1), g2.symm⟩, h1 _ H1 F1 r1 (s2.trans s1) (.inl (.bl _))⟩
      · rw [g1] at h1
        exact ⟨p, none, rfl, .inl ⟨kws, k, e1, keyV k q2 (w2.mono s1), g2.symm⟩, h1 _ H1 F1 r1 (s2.trans s1) (.inl (.bl _))⟩
theorem din_mono {n : Bool} (hi : ME X true e mi) (ho : ME X true o mo) (env : En) (P Q : D → Prop) (k : ∀ d, P d → Q d) (h : sDin n mi mo env P) : sDin n mi mo env Q := hi.mono _ _ _ (fun z hz => ho.mono _ _ _ (fun d hd => obK_mono (fun kvs h1 => obY_mono (fun q h2 => k _ h2) h1) hd) hz) h
theorem me_din (hu : X.A.units + 65 < cLine) (hi : ME X true e mi) (ho : ME X true o mo) (h1 : behindInMarks .In o = false := by rfl) : ME X b' (.Compare e [.In] [o] pos) (sDin false mi mo) :=
  ⟨⟨fun pins s σ H Q I h => (pe_cmp (pc_din (hu1 hu) hi.run ho.run) h1).run pins s σ H Q I (din_red hi ho h)⟩, din_mono hi ho⟩
theorem me_dnin (hu : X.A.units + 65 < cLine) (hi : ME X true e mi) (ho : ME X true o mo) (h1 : behindInMarks .NotIn o = false := by rfl) : ME X b' (.Compare e [.NotIn] [o] pos) (sDin true mi mo) :=
  ⟨⟨fun pins s σ H Q I h => (pe_cmp (pc_dnotin (hu1 hu) hi.run ho.run) h1).run pins s σ H Q I (dnin_red hi ho h)⟩, din_mono hi ho⟩
theorem mt_din (hu : X.A.units + 65 < cLine) (hi : ME X true e mi) (ho : ME X true o mo) (h1 : behindInMarks .In o = false := by rfl) : MT X (.Compare e [.In] [o] pos) (sTB (sDin false mi mo)) :=
  ⟨⟨fun pins s σ H Q I h => (pt_cmp (pc_din (hu1 hu) hi.run ho.run) h1).run pins s σ H Q I (din_red hi ho (tb_red (din_mono hi ho) h))⟩, tb_mono (me_din (b' := true) (pos := pos) hu hi ho h1)⟩
theorem mt_dnin (hu : X.A.units + 65 < cLine) (hi : ME X true e mi) (ho : ME X true o mo) (h1 : behindInMarks .NotIn o = false := by rfl) : MT X (.Compare e [.NotIn] [o] pos) (sTB (sDin true mi mo)) :=
  ⟨⟨fun pins s σ H Q I h => (pt_cmp (pc_dnotin (hu1 hu) hi.run ho.run) h1).run pins s σ H Q I (dnin_red hi ho (tb_red (din_mono hi ho) h))⟩, tb_mono (me_dnin (b' := true) (pos := pos) hu hi ho h1)⟩
/-! for k in d, d.values(), d.items(): d locked -/
def klen : Key → Prop
  | .inl _ => True
  | .inr s => s.length ≤ 16777216
theorem rv_key {K : Fg} {F : Hp} {k : Key} (h : klen k) : Rv K F (kD k) (kV k) := by
  cases k with
  | inl i => exact .int i
  | inr s => exact .str s (by rw [sizeLine_eq]; exact h)
theorem rks_at {K : Fg} {F : Hp} {k : Key} {v : V} : ∀ {kvs : List (Key × D)} {kws : List (Key × V)} {i : Nat}, Rks K F (kdD kvs) kws → kws[i]? = some (k, v) → ∃ d, kvs[i]? = some (k, d) ∧ Rv K F d v
  | [], _, i, h, e => by cases h; cases e
  | (k0, d0) :: r, kws, i, h, e => by
    obtain ⟨k', v', vs, e0, rfl, rv, h3⟩ := rks_inv h
    have e0 := kD_inj e0
    subst e0
    cases i with
    | zero => cases e; exact ⟨d0, rfl, rv⟩
    | succ i => exact rks_at (i := i) h3 e
def iKeysG (m : SE) : SI := fun env Q => m env fun d => obK (asLk d) fun kvs => (kvs.length ≤ 16777216 ∧ ∀ p ∈ kvs, klen p.1) ∧ Q (kvs.map fun p => kD p.1)
def iValsG (m : SE) : SI := fun env Q => m env fun d => obK (asLk d) fun kvs => kvs.length ≤ 16777216 ∧ Q (kvs.map fun p => p.2)
def iItemsG (m : SE) : SI := fun env Q => m env fun d => obK (asLk d) fun kvs => (kvs.length ≤ 16777216 ∧ ∀ p ∈ kvs, klen p.1) ∧ Q (kvs.map fun p => .tuple [kD p.1, p.2])
theorem mi_keysG (ha : ME X b a ma) : MI X b tg a (iKeysG ma) := by
  refine ⟨⟨fun pins s σ H R I h => (pi_keys ha.run).run pins s σ H R I ?_⟩, fun env P Q k h => ha.mono _ _ _ (fun d hd => obK_mono (fun kvs h1 => ⟨h1.1, k _ h1.2⟩) hd) h⟩
  obtain ⟨y, dr, F, env, re, hm⟩ := h
  refine ⟨y, dr, F, env, re, ha.mono _ _ _ (fun d hd v H' F' r1 s1 w => ?_) hm⟩
  cases q : asLk d with
  | none => rw [q] at hd; exact hd.elim
  | some kvs =>
    rw [q] at hd
    obtain ⟨p, o, kws, rfl, e1, e2⟩ := w.asLk r1 q
    have hH : H' p = some (.frz o (.dK kws)) := r1.rf.sub _ _ e1
    have hl : kws.length = kvs.length := rks_len e2
    have nd : some p ≠ dr := fun e => by rw [(r1.rf.drw _ e.symm).1] at e1; cases e1
    refine ⟨p, o, rfl, .inl ⟨kws, hH, ?_⟩⟩
    obtain ⟨⟨hz, hk⟩, hd⟩ := hd
    have hd : ∀ J H'' F'' G Y, _ := hd
    refine hd (Itk p o kws) H' F' (fun H1 => H1 p = some (.frz o (.dK kws))) (fun i H1 x H2 => H2 = H1 ∧ ∃ k v, kws[i]? = some (k, v) ∧ x = kV k) r1 s1 (by rw [List.length_map, sizeLine_eq]; exact hz) ?_ ⟨fun _ H1 s => s _ _ e1, fun _ H1 k => k _ _ hH nd⟩ ?_
    · rw [List.length_map, ← hl]
      exact ⟨fun i H hi h => ⟨h, hi⟩, fun H h => ⟨h, Nat.le_refl _⟩, fun i H x H2 _ _ h => h⟩
    · rintro i H1 x H2 hi _ ⟨rfl, k, v, hkv, rfl⟩ y1 dr1 F1 env1 σ1 re1 sm
      obtain ⟨d, g1, g2⟩ := rks_at e2 hkv
      exact ⟨F1, Ex.refl, re1, ⟨kD k, by rw [List.getElem?_map, g1]; rfl, rv_key (hk _ (List.mem_of_getElem? g1))⟩, Same.refl _, fun _ h _ => h⟩
theorem mi_valsG (ha : ME X b a ma) (hbase : attributeBase a "values" X.env (eval a X.env) = eval a X.env := by rfl) (hline : (apos.endLine == cpos.line) = true := by rfl) : MI X b tg (.Call (.Attribute a "values" apos) [] [] cpos) (iValsG ma) := by
  refine ⟨⟨fun pins s σ H R I h => (pi_values ha.run hbase hline).run pins s σ H R I ?_⟩, fun env P Q k h => ha.mono _ _ _ (fun d hd => obK_mono (fun kvs h1 => ⟨h1.1, k _ h1.2⟩) hd) h⟩
  obtain ⟨y, dr, F, env, re, hm⟩ := h
  refine ⟨y, dr, F, env, re, ha.mono _ _ _ (fun d hd v H' F' r1 s1 w => ?_) hm⟩
  cases q : asLk d with
  | none => rw [q] at hd; exact hd.elim
  | some kvs =>
    rw [q] at hd
    obtain ⟨p, o, kws, rfl, e1, e2⟩ := w.asLk r1 q
    have hH : H' p = some (.frz o (.dK kws)) := r1.rf.sub _ _ e1
    have hl : kws.length = kvs.length := rks_len e2
    have nd : some p ≠ dr := fun e => by rw [(r1.rf.drw _ e.symm).1] at e1; cases e1
    refine ⟨p, o, kws, rfl, hH, ?_⟩
    obtain ⟨hz, hd⟩ := hd
    have hd : ∀ J H'' F'' G Y, _ := hd
    refine hd (Itd p o kws) H' F' (fun H1 => H1 p = some (.frz o (.dK kws))) (fun i H1 x H2 => H2 = H1 ∧ ∃ k, kws[i]? = some (k, x)) r1 s1 (by rw [List.length_map, sizeLine_eq]; exact hz) ?_ ⟨fun _ H1 s => s _ _ e1, fun _ H1 k => k _ _ hH nd⟩ ?_
    · rw [List.length_map, ← hl]
      exact ⟨fun i H hi h => ⟨h, hi⟩, fun H h => ⟨h, Nat.le_refl _⟩, fun i H x H2 _ _ h => h⟩
    · rintro i H1 x H2 hi _ ⟨rfl, k, hkv⟩ y1 dr1 F1 env1 σ1 re1 sm
      obtain ⟨d, g1, g2⟩ := rks_at e2 hkv
      exact ⟨F1, Ex.refl, re1, ⟨d, by rw [List.getElem?_map, g1]; rfl, g2.mono sm⟩, Same.refl _, fun _ h _ => h⟩
/-- turns over d.items(): each pair a known object -/
def Itp (d : Addr) (o : Obj) (kvs : List (Key × V)) : It :=
  ⟨(Iti d o kvs).go, fun i H x H' => ∃ T k v ot, TuO ot ∧ kvs[i]? = some (k, v) ∧ x = .ref T ∧ H T = none ∧ H' = upd H T (.frz ot (.tup [kV k, v])), (Iti d o kvs).stop⟩
theorem turn_itp {P : Program} {w : World} {K : PySem.W.Frag} {d : Addr} {o : Obj} {es : Array DictEntry} {ep : Nat} {kvs : List (Key × V)} {elts : List Expr} {kk : Nat} {tpos : Pos} (it : Addr) (hod : o.data = .dict es ep) :
    Turn P w K (.Tuple elts kk tpos) (Itp d o kvs) [it] it (fun i h => ∃ ok ov, IsItemIter h it d i kvs.length ep ok ov) := by
  have W : Turn P w K (.Tuple elts kk tpos) (Iti d o kvs) [it] it (fun i h => ∃ ok ov, IsItemIter h it d i kvs.length ep ok ov) := turn_items it hod
  refine ⟨W.mem, W.obj, W.keep, ?_, W.done, W.self⟩
  intro X hP hw hK hc i pins s σ H E I hf st hg
  subst hP hw hK
  obtain ⟨hd, hi⟩ := hg
  obtain ⟨hs, _, _, es2, ep2, vs, hdt, _, kv, hm⟩ := I.frzK hd
  obtain ⟨rfl, rfl⟩ := dict_ep hod hdt
  have lv := Paired.length kv
  obtain ⟨u, hu, ru⟩ := kv_get kv (k := kvs[i].1) (v := kvs[i].2) (List.getElem?_eq_getElem hi)
  obtain ⟨ok, ov, he⟩ := st
  rw [lv] at he
  have hlt := Heap.lt_size he
  refine wpAny_pyNext_items_item he hm hu fun key h1 hkey ho hT hz hk => ⟨_, rfl, wpAny_letOwnedTupleGo_items (s := { s with heap := h1 }) ho fun h2 he2 sb => ?_⟩
  have hT2 : h2.get? s.heap.objs.size = some (nT [key, u]) := (sb.2 _ (Nat.ne_of_gt hlt)).trans hT
  refine ⟨.ref s.heap.objs.size, upd H s.heap.objs.size (.frz (nT [key, u]) (.tup [kV kvs[i].1, kvs[i].2])), I.turnedNew (t' := s.toks) (ch := [it]) (fun c q hc q1 => ?_) hf (Nat.le_refl _) (okT (.cons (relV_key hkey) (.cons ru .nil)) (by show 2 ≤ sizeLine; decide) hT2), rfl,
    ⟨_, _, _, _, nT_TuO _, List.getElem?_eq_getElem hi, rfl, I.hok.fresh (Nat.le_refl _), rfl⟩, ⟨key, u, by rw [lv]; exact he2⟩, fun c hc => ?_⟩
  · have n : c ≠ it := by simpa using hc
    exact (sb.2 c n).trans (hk c q n q1)
  · obtain rfl : c = it := by simpa using hc
    rw [upd_ne (Nat.ne_of_lt hlt)]
    exact (hf c (by simp)).1
def iItp (td : TE) : TI := fun σ H R => td σ H fun x H1 => ∃ d o kvs, x = .ref d ∧ H1 d = some (.frz o (.dK kvs)) ∧ R (Itp d o kvs) H1
open PyProof.Rows in
theorem pi_itp {X : Cx} {e : Expr} {td : TE} {apos cpos : Pos} {elts : List Expr} {kk : Nat} {tpos : Pos} (he : PE X e td) (hbase : attributeBase e "items" X.env (eval e X.env) = eval e X.env := by rfl) (hline : (apos.endLine == cpos.line) = true := by rfl) :
    PI X (.Tuple elts kk tpos) (.Call (.Attribute e "items" apos) [] [] cpos) (iItp td) := by
  refine ⟨fun pins s σ H R I h => ?_⟩
  refine wpAny_Call_method (T := "dict") (id := "dict.items") hbase rfl hline F.plainAttrs_dict F.slot_dict_items F.type_dict_items (thn (he.run pins s σ H _ I h) fun u s1 ⟨x, H1, J, rx, d, o, kvs, ex, hd, q⟩ => ?_)
  cases ex
  cases rx
  obtain ⟨hs, _, _, es, ep, vs, hdt, _, kv, hm⟩ := J.frzK hd
  have D := hm.dictOf
  refine ⟨D.typeIs, D.mapOf.noDict, ?_⟩
  generalize hv : ({ cls := .type "dict_items", data := .fields #[.ref d] } : Obj) = vo
  have ev : (s1.heap.push vo).get? s1.heap.objs.size = some vo := Heap.get?_push_size _ (by rw [← hv]; rfl)
  have J2 : Inv X pins σ H1 { s1 with heap := s1.heap.push vo } := J.kept (t' := s1.toks) fun c q q1 => Heap.get?_push_of_some _ q1
  have fin : wpAny (model X.prog X.w) X.A (pyIter (.ref s1.heap.objs.size)) (PIE X pins σ (.Tuple elts kk tpos) R) X.xe { s1 with heap := s1.heap.push vo } := by
    subst hv
    refine wpAny_pyIter_items (d := d) (knd := mixKind X.prog X.w) ⟨_, ev, rfl, rfl⟩ (hm.push _) (pi_one (tk := s1.toks) J2 _ (turn_itp _ hdt) ⟨.none, .none, ?_⟩ q)
    rw [Paired.length kv]
    exact Heap.get?_push_size _ rfl
  subst hv
  show wpAny _ _ (callWith cpos (.builtin "dict.items") [.ref d] [] []) _ X.xe s1
  exact method_meetsIn F.slot_dict_items F.entry_dict_items rfl (PySem.evalArgs_none ⟨rfl, D.typeIs, F.args_dict_items_1 _, _, meets_dict_items (mixKind X.prog X.w) d hs, ⟨vs, D⟩, fin⟩)
theorem mi_itemsG {elts : List Expr} {kk : Nat} {tpos : Pos} (ha : ME X b a ma) (hbase : attributeBase a "items" X.env (eval a X.env) = eval a X.env := by rfl) (hline : (apos.endLine == cpos.line) = true := by rfl) : MI X b (.Tuple elts kk tpos) (.Call (.Attribute a "items" apos) [] [] cpos) (iItemsG ma) := by
  refine ⟨⟨fun pins s σ H R I h => (pi_itp ha.run hbase hline).run pins s σ H R I ?_⟩, fun env P Q k h => ha.mono _ _ _ (fun d hd => obK_mono (fun kvs h1 => ⟨h1.1, k _ h1.2⟩) hd) h⟩
  obtain ⟨y, dr, F, env, re, hm⟩ := h
  refine ⟨y, dr, F, env, re, ha.mono _ _ _ (fun d hd v H' F' r1 s1 w => ?_) hm⟩
  cases q : asLk d with
  | none => rw [q] at hd; exact hd.elim
  | some kvs =>
    rw [q] at hd
    obtain ⟨p, o, kws, rfl, e1, e2⟩ := w.asLk r1 q
    have hH : H' p = some (.frz o (.dK kws)) := r1.rf.sub _ _ e1
    have hl : kws.length = kvs.length := rks_len e2
    have nd : some p ≠ dr := fun e => by rw [(r1.rf.drw _ e.symm).1] at e1; cases e1
    refine ⟨p, o, kws, rfl, hH, ?_⟩
    obtain ⟨⟨hz, hk⟩, hd⟩ := hd
    have hd : ∀ J H'' F'' G Y, _ := hd
    refine hd (Itp p o kws) H' F' (fun H1 => H1 p = some (.frz o (.dK kws))) _ r1 s1 (by rw [List.length_map, sizeLine_eq]; exact hz) ?_ ⟨fun _ H1 s => s _ _ e1, fun _ H1 k => k _ _ hH nd⟩ (yPair_ok (yp := fun i x1 x2 => ∃ k v, kws[i]? = some (k, v) ∧ x1 = kV k ∧ x2 = v) fun i x1 x2 hi hy => ?_)
    · rw [List.length_map, ← hl]
      refine ⟨fun i H hi h => ⟨h, hi⟩, fun H h => ⟨h, Nat.le_refl _⟩, fun i H x H2 _ _ h => ?_⟩
      obtain ⟨T, k, v, ot, to, h1, h2, h3, h4⟩ := h
      exact ⟨T, kV k, v, ot, to, h2, h3, h4, k, v, h1, rfl, rfl⟩
    · obtain ⟨k, v, hkv, rfl, rfl⟩ := hy
      obtain ⟨d, g1, g2⟩ := rks_at e2 hkv
      exact ⟨kD k, d, by rw [List.getElem?_map, g1]; rfl, rv_key (hk _ (List.mem_of_getElem? g1)), g2⟩
end
def fzK (s : Sl) (i : Nat) (env : En) : En := match s with
  | .k kvs => env.set i (.v (lkD kvs))
  | _ => env
@[simp] theorem fzK_k {kvs : List (Key × D)} {i : Nat} {env : En} : fzK (.k kvs) i env = env.set i (.v (lkD kvs)) := rfl
@[simp] theorem fzK_v {d : D} {i : Nat} {env : En} : fzK (.v d) i env = env := rfl
@[simp] theorem fzK_u {i : Nat} {env : En} : fzK .un i env = env := rfl
@[simp] theorem u_sFzD {i : Nat} {m : SS} {K : Ks} {env : En} : sFzD i m K env = m K (fzK (gv env i) i env) := by
  unfold sFzD fzL fzK
  cases gv env i <;> rfl
@[simp] theorem u_sFk {m : SK} {env : En} {Q : D → Prop} : sFk m env Q = (m env fun kvs => Q (lkD kvs)) := rfl
@[simp] theorem u_sOwnD {i : Nat} {m : SK} {K : Ks} {env : En} : sOwnD i m K env = (m env fun kvs => K.nx (env.set i (.k kvs))) := rfl
@[simp] theorem u_sDnil {env : En} {Q : List (Key × D) → Prop} : sDnil env Q = Q [] := rfl
@[simp] theorem u_sPairs {m : SE} {env : En} {Q : List (Key × D) → Prop} : sPairs m env Q = (m env fun d => match d with
  | .list xs => obK (pairsOf xs) fun kvs => Q (mergeG [] kvs)
  | _ => False) := rfl
@[simp] theorem u_sDin {n : Bool} {mi mo : SE} {env : En} {Q : D → Prop} : sDin n mi mo env Q = (mi env fun z => mo env fun x => obK (asK x) fun kvs => obY (keyOf z) fun k => Q (.bool (if n then !(getG kvs k).isSome else (getG kvs k).isSome))) := rfl
@[simp] theorem u_iKeysG {m : SE} {env : En} {Q : List D → Prop} : iKeysG m env Q = (m env fun d => obK (asLk d) fun kvs => (kvs.length ≤ 16777216 ∧ ∀ p ∈ kvs, klen p.1) ∧ Q (kvs.map fun p => kD p.1)) := rfl
@[simp] theorem u_iValsG {m : SE} {env : En} {Q : List D → Prop} : iValsG m env Q = (m env fun d => obK (asLk d) fun kvs => kvs.length ≤ 16777216 ∧ Q (kvs.map fun p => p.2)) := rfl
@[simp] theorem u_iItemsG {m : SE} {env : En} {Q : List D → Prop} : iItemsG m env Q = (m env fun d => obK (asLk d) fun kvs => (kvs.length ≤ 16777216 ∧ ∀ p ∈ kvs, klen p.1) ∧ Q (kvs.map fun p => .tuple [kD p.1, p.2])) := rfl
@[simp] theorem asK_lkD (kvs : List (Key × D)) : asK (lkD kvs) = some kvs := asK_lk kvs
end Mi

set_option maxHeartbeats 4000000
namespace Mi
open PySem PySem.Spec L2
/-! ### a tuple * n -/
section
open PyProof.Rows
theorem tuple_mul1 (l : Addr) (items : Array Value) (n : Nat) (dd : Option Addr) (sl : Array (Option Value)) (u : Tok) :
    Meets (Builtin.«tuple.__mul__» ⟨[.ref l, .int 1 u], []⟩) (fun _ R s => s.heap.get? l = some { cls := .type "tuple", dict := dd, data := .seq items n, slots := sl } ∧ R (.ok (.ret (Value.ref l))) s) :=
  .of_wp fun prog w A R s h => by
    obtain ⟨hp, g, d, tk, os⟩ := s
    obtain ⟨hl, h⟩ := h
    have f1 := AutoSeq1.idx_int
    have c1 : (items.isEmpty || (1 : Int) == 1) = true := by simp
    wp_walk using wpAny_loadPart' hl
    exact ⟨_, rfl, h⟩
def rRep1 (K : Fg) : R2 := fun x y H Q => ∃ l xs, x = .ref l ∧ y = .int 1 ∧ SqT K H l xs ∧ Q (.ref l) H
theorem op_rep1 {X : Cx} : OpR X (binaryOp .Mult) (rRep1 X.G) := by
  intro pins s σ H x y v u Q I rx ry h
  obtain ⟨l, xs, rfl, rfl, hT, q⟩ := h
  cases rx
  obtain ⟨t, rfl⟩ := ry
  obtain ⟨its, r, ⟨⟨cls, dd, data, sl⟩, ho, hc, n, hd⟩, hs⟩ := I.tuple hT
  simp only at hc hd
  subst hc hd
  exact wpAny_binaryOp_repeat_ref (T := "tuple") (U := "int") (by decide) ⟨_, ho, rfl⟩ (fun s' => typeIs_int s' 1 t) noFill_tuple_mul F.fills_int_mul F.slot_int_rmul repeat_tuple F.slot_int_index.lookup
    (call_meets F.slot_int_rmul (typeIs_int s 1 t) F.entry_int_rmul (F.args_int_rmul_2 _ _) (int_rmul_tuple 1 t l its.toArray n dd sl)
      ⟨ho, rfl, ⟨_, ho, rfl⟩, call_meets F.slot_tuple_mul ⟨_, ho, rfl⟩ F.entry_tuple_mul (F.args_tuple_mul_2 _ _) (tuple_mul1 l its.toArray n dd sl t) ⟨ho, .ref l, H, I, rfl, q⟩⟩)
end
noncomputable def repD (x z : D) : Option D := match x, z with
  | .tuple xs, .int k => cIf (xs ≠ [] ∧ 1 ≤ k ∧ k ≤ 1000 ∧ xs.length ≤ 1000) (some (.tuple (List.replicate k.toNat xs).flatten)) none
  | _, _ => none
theorem rvs_repT {K : Fg} {F : Hp} {xs : List D} {vs : List V} (r : Rvs K F xs vs) : ∀ n : Nat, Rvs K F (List.replicate n xs).flatten (List.replicate n vs).flatten
  | 0 => .nil
  | n + 1 => by
    rw [List.replicate_succ, List.replicate_succ, List.flatten_cons, List.flatten_cons]
    exact r.append (rvs_repT r n)
theorem rep_len {α : Type} (xs : List α) : ∀ n : Nat, (List.replicate n xs).flatten.length = n * xs.length
  | 0 => by simp
  | n + 1 => by rw [List.replicate_succ, List.flatten_cons, List.length_append, rep_len xs n, Nat.add_mul]; omega
section
variable {X : Cx} {b b' : Bool} {a c : Expr} {ma mc : SE} {pos : Pos}
theorem ok_repT : Ok2 X b repD (fun x z H Q => rRepP X.G x z H Q ∨ rRep1 X.G x z H Q) := by
  intro y dr F env σ H d1 d2 d v1 v2 Q re w1 w2 e k
  unfold repD at e
  split at e
  · rename_i xs kk
    by_cases hc : xs ≠ [] ∧ 1 ≤ kk ∧ kk ≤ 1000 ∧ xs.length ≤ 1000
    · rw [cIf_pos hc] at e
      cases e
      obtain ⟨a1, vs, rfl, h1, z1, r1⟩ := w1.tuple re
      have l1 := r1.length
      have hi := w2.int
      subst hi
      by_cases h : kk = 1
      · subst h
        refine .inr ⟨a1, vs, rfl, rfl, re_tuple re h1, k _ H F re Ex.refl (.tup h1 ?_ ?_)⟩
        · simpa using z1
        · simpa using r1
      · refine .inl ⟨a1, kk, vs, rfl, rfl, re_tuple re h1, fun z => hc.1 ?_, by omega, hc.2.2.1, by omega, fun p o to hp => ?_⟩
        · rw [z] at l1; exact List.eq_nil_of_length_eq_zero l1
        · refine k _ _ _ (re.laid hp) (re.ex hp) (Rv.tupNew (re.nF hp) to ?_ (rvs_repT r1 kk.toNat))
          rw [rep_len, sizeLine_eq]
          have : kk.toNat * xs.length ≤ 1000 * 1000 := Nat.mul_le_mul (by omega) hc.2.2.2
          omega
    · rw [cIf_neg hc] at e; cases e
  · cases e
theorem me_repT (ha : ME X b a ma) (hc : ME X b c mc) : ME X b' (.BinOp a .Mult c pos) (sOp repD ma mc) := me_op (op_repP.or op_rep1) ok_repT ha hc
end
theorem rep_i {xs : List D} {k : Int} (h : xs ≠ [] ∧ 1 ≤ k ∧ k ≤ 1000 ∧ xs.length ≤ 1000) : repD (.tuple xs) (.int k) = some (.tuple (List.replicate k.toNat xs).flatten) := cIf_pos h
/-! ### enumerate(xs, start=k) -/
section
variable {prog : Program} {w : World} {A : Around} {E : Value → Shared → Prop} {s : Shared} {env : Env}
theorem callWith_typeK {pos : Pos} {T : String} {first : List Value} {args : List (Bool × Sem Value)} {keywords : List (Option Str × Sem Value)} {Q : Value → Shared → Prop}
    (hplain : args.any (·.1) = false) (hkw : keywords.any (·.1.isNone) = false)
    (h : wpAny (model prog w) A (evalArgs (.type T) true args keywords) (fun a s₁ => wpAny (model prog w) A (call (.type T) (first ++ a.pos) a.kw) Q E s₁) E s) :
    wpAny (model prog w) A (callWith pos (.type T) first args keywords) Q E s := by
  unfold callWith
  refine wpAny_bind (wpAny_holding (wpAny_mono h (fun a s₁ h₁ => wpAny_bind (wpAny_standAt ?_)) fun _ _ x => x))
  simp only [hplain, hkw, Bool.or_false]
  refine wpAny_bind (wpAny_pure ?_)
  exact wpAny_bind (wpAny_mono h₁ (fun r s₂ hr => wpAny_bind (wpAny_holding (wpAny_point (wpAny_pure hr)))) fun _ _ x => x)
theorem callWith_kwT {pos : Pos} {T : String} {e : Expr} {rest : List Expr} {kws : List Keyword} {Q : Value → Shared → Prop}
    (h : wpAny (model prog w) A (spliced (backTo pos (starEach (e :: rest) env))) (fun vs s₁ => wpAny (model prog w) A (evalAll ((backToKw pos (keywordEach kws env)).map (·.2)))
      (fun kvs s₂ => wpAny (model prog w) A (call (.type T) vs (((backToKw pos (keywordEach kws env)).filterMap (·.1)).zip kvs)) Q E s₂) E s₁) E s)
    (he : backTo pos (starEach (e :: rest) env) = (false, eval e env) :: backTo pos (starEach rest env) := by rfl)
    (hplain : (backTo pos (starEach (e :: rest) env)).any (·.1) = false := by rfl)
    (hall : (backToKw pos (keywordEach kws env)).all (·.1.isSome) = true := by rfl)
    (hkw : (backToKw pos (keywordEach kws env)).any (·.1.isNone) = false := by rfl) :
    wpAny (model prog w) A (callWith pos (.type T) [] (backTo pos (starEach (e :: rest) env)) (backToKw pos (keywordEach kws env))) Q E s := by
  refine callWith_typeK hplain hkw ?_
  rw [he] at h ⊢
  exact PyProof.Rows.evalArgs_kwB hall h
end
section
variable {X : Cx} {b : Bool} {a : Expr} {ma : SE} {pos : Pos}
theorem mi_enS {elts : List Expr} {kk : Nat} {tpos p kp cp : Pos} {k : Int} {cj : Nat} (hk0 : -(2 ^ 63) ≤ k := by decide) (hk1 : k < 2 ^ 63 := by decide) (hg : Gl X "enumerate") (hm : X.mg "enumerate" = none) (ha : ME X b a ma)
    (he : backTo pos (starEach [a] X.env) = (false, eval a X.env) :: backTo pos (starEach [] X.env) := by rfl) (hpl : (backTo pos (starEach [a] X.env)).any (·.1) = false := by rfl) (hs : starEach [a] X.env = [(false, eval a X.env)] := by rfl)
    (hall : (backToKw pos (keywordEach [⟨some "start", .Constant (.int k) cj cp, kp⟩] X.env)).all (·.1.isSome) = true := by rfl) (hnone : (backToKw pos (keywordEach [⟨some "start", .Constant (.int k) cj cp, kp⟩] X.env)).any (·.1.isNone) = false := by rfl)
    (hks : (backToKw pos (keywordEach [⟨some "start", .Constant (.int k) cj cp, kp⟩] X.env)).filterMap (·.1) = [Str.ofString "start"] := by rfl) :
    MI X b (.Tuple elts kk tpos) (.Call (.Name "enumerate" p) [a] [⟨some "start", .Constant (.int k) cj cp, kp⟩] pos) (iEn k ma) := by
  refine ⟨⟨fun pins s σ H R I h => ?_⟩, iEn_mono ha⟩
  obtain ⟨y, dr, F, env, re, hm2⟩ := h
  refine wpAny_Call_Name_kw (ld_blt I hg hm PyProof.Rows.boot_enumerate (callWith_kwT (thn ((pa_cons ha.run pa_nil hs).run pos pins s σ H (fun vs H1 => ∃ y dr F' env' d v xs, vs = [v] ∧ Re X.G y dr F' env' σ H1 ∧ Vr X.G b F' env' σ d v ∧ itemsOf d = some xs ∧
      ∀ J H' F2 G Y, Re X.G y dr F2 env' σ H' → Ex dr F' H1 F2 H' → (enumL k xs).length ≤ sizeLine → Walk J (enumL k xs).length G Y → GOk b dr F2 H' G → YOk X.G F2 (enumL k xs) G Y → R J H') I ?_) fun us s1 ⟨vs, H1, I1, r1, q1⟩ => ?_) he hpl hall hnone))
  · refine ⟨y, dr, F, env, re, ha.mono _ _ _ (fun d hd v H' F' r1 s1 w => ?_) hm2⟩
    cases q : itemsOf d with
    | none => rw [q] at hd; exact hd.elim
    | some xs =>
      rw [q] at hd
      exact ⟨y, dr, F', env, d, v, xs, rfl, r1, w, q, fun J H2 F2 G Y r2 s2 => hd J H2 F2 G Y r2 (s1.trans s2)⟩
  · refine thn ((pk_cons (nm := some "start") (kpos := kp) (pe_int (i := k) (j := cj) (pos := cp)) pk_nil).run pos pins s1 σ H1 (fun zs H2 => zs = [.int k] ∧ H2 = H1) I1 ⟨rfl, rfl⟩) fun ws s2 ⟨zs, H2, I2, r2, ez, eH⟩ => ?_
    subst ez eH
    rw [hks]
    obtain ⟨y, dr, F, env, d, v, xs, rfl, re1, w, hx, hR⟩ := q1
    cases r1 with
    | cons r rr =>
      cases rr
      cases r2 with
      | cons ri rn =>
        cases rn
        obtain ⟨t, rfl⟩ := ri
        obtain ⟨o, Bh, Rr, sa, yv, q1, q2, q3, q4, q5, q6, q7, q8⟩ := src_of (X := X) rfl I2 re1 w r hx
        exact enum_begins_start q1 q2 hk0 hk1 fun h' he ho hsz hk => wpAny_pyIter_enum he (en_fin I2 re1 Ex.refl q3 q4 q5 q6 q7 q8 he ho hk hR)
end
end Mi

set_option maxHeartbeats 2000000
namespace Mi
open PySem PySem.Spec L2
/-! ### sorted(d.items()) -/
section
open LiI
/-- tuples at their addresses, their objects known -/
def putP (ob : Addr → Obj) : Hp → List Addr → List (Key × V) → Hp
  | H, a :: as, p :: kws => putP ob (upd H a (.frz (ob a) (.tup [kV p.1, p.2]))) as kws
  | H, _, _ => H
theorem putP_off {ob : Addr → Obj} {c : Addr} : ∀ (as : List Addr) (kws : List (Key × V)) (H : Hp), c ∉ as → putP ob H as kws c = H c
  | [], _, _, _ => rfl
  | _ :: _, [], _, _ => rfl
  | _ :: as, _ :: kws, _, n => by
    have n1 : c ∉ as := fun z => n (List.mem_cons_of_mem _ z)
    exact (putP_off as kws _ n1).trans (upd_ne fun z => n (z ▸ List.mem_cons_self))
theorem putP_at {ob : Addr → Obj} : ∀ (as : List Addr) (kws : List (Key × V)) (H : Hp), as.length = kws.length → as.Nodup → Paired (fun (t : Addr) (p : Key × V) => putP ob H as kws t = some (.frz (ob t) (.tup [kV p.1, p.2]))) as kws
  | [], [], _, _, _ => .nil
  | [], _ :: _, _, e, _ => nomatch e
  | _ :: _, [], _, e, _ => nomatch e
  | _ :: as, _ :: kws, _, e, nd => .cons ((putP_off as kws _ (List.nodup_cons.mp nd).1).trans upd_same) (putP_at as kws _ (Nat.succ.inj e) (List.nodup_cons.mp nd).2)
/-- the object that lies at a place -/
def obAt (h : Heap) (a : Addr) : Obj := (h.get? a).getD (nT [])
/-- the tuples of a dict's items, laid -/
theorem items_laidT {X : Cx} {pins : List (Addr × Obj)} {σ : L2.St} {H : Hp} {s : Shared} {h' : Heap} {tk : Nat} {kvs : List (Key × V)} {vs : List (Key × Value)} {as : List Addr} (I : Inv X pins σ H s) (kv : KV kvs vs)
    (hk : ∀ b o, s.heap.get? b = some o → h'.get? b = some o) (hl : as.length = vs.length) (hG : PySem.W.KdxG (mixKind X.prog X.w) vs s.heap.objs.size h' as) :
    (∀ t ∈ as, H t = none) ∧ as.Nodup ∧ as.length = kvs.length ∧ (∀ t ∈ as, TuO (obAt h' t)) ∧ Inv X pins σ (putP (obAt h') H as kvs) { s with heap := h', toks := tk } := by
  have lk : kvs.length = vs.length := Paired.length kv
  have nd : as.Nodup := List.Pairwise.imp (fun {a b} (h : a < b) => Nat.ne_of_lt h) hG.rise
  have new : ∀ t ∈ as, H t = none := fun t ht => I.hok.fresh (Nat.le_of_lt (hG.above t ht))
  have atP := putP_at (ob := obAt h') as kvs H (by omega) nd
  have off : ∀ b, b ∉ as → putP (obAt h') H as kvs b = H b := fun b h1 => putP_off as kvs _ h1
  have low : ∀ b o, s.heap.get? b = some o → b ∉ as := fun b o e z => absurd (Heap.lt_size e) (Nat.not_lt.mpr (Nat.le_of_lt (hG.above b z)))
  have kp : ∀ b u, H b = some u → (putP (obAt h') H as kvs) b = some u := fun b u e => by
    rw [off b (fun z => by rw [new b z] at e; cases e)]
    exact e
  refine ⟨new, nd, by omega, fun t ht => ?_, ?_⟩
  · obtain ⟨j, e⟩ := List.mem_iff_getElem?.mp ht
    obtain ⟨key, k, x, _, _, f3⟩ := hG.pairs j t e
    unfold obAt
    rw [f3]
    exact ⟨rfl, rfl⟩
  refine I.call' (ch := []) rfl ⟨fun b o q _ _ _ => hk b o q, fun b o q _ _ _ => ⟨o.slots, hk b o q⟩, fun b o q n _ => ?_, fun b o q _ => ⟨o, hk b o q⟩, fun b xs q => kp b _ q, fun b o u q => kp b _ q, fun b ps q => ⟨#[], by rw [kp b _ q]; simp⟩⟩ (fun b u q => ?_) I.bare fun b z => by simp at z
  · rw [off b (low b o q)]
    exact n
  · by_cases hb : b ∈ as
    · obtain ⟨j, pk, e1, e2, e3⟩ := paired_ix atP hb
      rw [e3] at q
      cases q
      obtain ⟨key, k, x, f1, f2, f3⟩ := hG.pairs j b e1
      obtain ⟨qv, g1, g2, g3⟩ := LiI.paired_get kv e2
      rw [f1] at g1
      cases g1
      have rk : RelV (kV pk.1) key := by
        rw [g2]
        exact relV_key (show keyIs k key = true from f2)
      have eo : obAt h' b = nT [key, x] := by unfold obAt; rw [f3]; rfl
      rw [eo]
      exact okT (.cons rk (.cons g3 .nil)) (by show 2 ≤ sizeLine; decide) f3
    · rw [off b hb] at q
      exact (I.hok b u q).stay (fun d v _ y => hk d v y) (fun d y => kp d _ y) fun d xs y => kp d _ y
end
def rSortItems (X : Cx) : V → Hp → VK → Prop := fun x H Q => ∃ (d : Addr) (kvs : List (Key × V)), x = .ref d ∧ Rd H d (.dK kvs) ∧
  ∀ (ob : Addr → Obj) (as : List Addr), (∀ t ∈ as, TuO (ob t)) → (∀ t ∈ as, H t = none) → as.Nodup → as.length = kvs.length → ∃ ds : List D, as.length = ds.length ∧ (∀ p ∈ (as.map V.ref).zip ds, Dp X.G (putP ob H as kvs) p.1 p.2) ∧ PySem.W.AllAlike ds ∧ PySem.W.Sortable ds ∧ (∀ d ∈ ds, d.depth ≤ 60) ∧
    ∀ p, putP ob H as kvs p = none → Q (.ref p) (upd (putP ob H as kvs) p (.lst ((((as.map V.ref).zip ds).mergeSort fun p q => leD' p.2 q.2).map (·.1))))
def tSortItems (X : Cx) (te : TE) : TE := fun σ H Q => te σ H fun x H1 => rSortItems X x H1 Q
open PyProof.Rows in
theorem sort_items {X : Cx} {pins : List (Addr × Obj)} {σ : L2.St} {H : Hp} {s : Shared} {d r : Addr} {kvs : List (Key × V)} {vs : List (Key × Value)} {ep : Nat} {Q : VK} (hc : X.calm = true) (hu : X.A.units + 65 < cLine) (I : Inv X pins σ H s) (hv : s.heap.IsItemsView r d) (kv : KV kvs vs) (hm : s.heap.DictAt (mixKind X.prog X.w) d vs ep) (hn : kvs.length ≤ sizeLine)
    (q : ∀ (ob : Addr → Obj) (as : List Addr), (∀ t ∈ as, TuO (ob t)) → (∀ t ∈ as, H t = none) → as.Nodup → as.length = kvs.length → ∃ ds : List D, as.length = ds.length ∧ (∀ p ∈ (as.map V.ref).zip ds, Dp X.G (putP ob H as kvs) p.1 p.2) ∧ PySem.W.AllAlike ds ∧ PySem.W.Sortable ds ∧ (∀ d ∈ ds, d.depth ≤ 60) ∧
      ∀ p, putP ob H as kvs p = none → Q (.ref p) (upd (putP ob H as kvs) p (.lst ((((as.map V.ref).zip ds).mergeSort fun p q => leD' p.2 q.2).map (·.1))))) :
    wpAny (model X.prog X.w) X.A (call (.builtin "sorted") [.ref r]) (EP X pins σ Q) X.xe s := by
  have lk : kvs.length = vs.length := Paired.length kv
  apply Calls.call_function_entry kind_sorted plain_sorted
  · exact entry_sorted
  · exact args_sorted1 _
  unfold Builtin.«sorted»
  apply wpAny_bind (m := checkCount "sorted" 1 1 _)
  refine wpAny_pure (wpAny_bind (PySem.W.kdx_collect (knd := mixKind X.prog X.w) (kvs := vs) (ep := ep) (I.ok.hd hc) hv hm (by omega) fun hp tk as k1 hl hG => ?_))
  obtain ⟨fresh, nd, ln, to, J⟩ := items_laidT (tk := tk) I kv k1 hl hG
  obtain ⟨ds, hld, hd, hal, hso, hdp, q⟩ := q _ as to fresh nd ln
  generalize obAt hp = ob at *
  have hits : (as.map Value.ref).length ≤ sizeLine := by rw [List.length_map]; omega
  generalize hits0 : as.map Value.ref = its at *
  have rv : Vals (as.map V.ref) its := by rw [← hits0]; exact LiI.vals_refs as
  generalize hvs : as.map V.ref = ws at *
  have hlw : ws.length = ds.length := by rw [← hvs, List.length_map]; exact hld
  have hwz : ws.length ≤ sizeLine := by rw [← hvs, List.length_map]; omega
  have ez := zip_vals rv hlw
  have e2 := map_snd_zip hlw
  have hlen : (ws.zip ds).length = ws.length := by rw [List.length_zip, ← hlw]; simp
  refine wpAny_bind (wpAny_newList ?_ hits)
  have hoL : (hp.push (seqObj "list" its.toArray 0)).get? hp.objs.size = some (seqObj "list" its.toArray 0) := Heap.get?_push_size _ rfl
  have k2 : ∀ b o, hp.get? b = some o → b ≠ hp.objs.size ∧ b < (hp.push (seqObj "list" its.toArray 0)).objs.size ∧ (hp.push (seqObj "list" its.toArray 0)).get? b = some o := fun b o e1 => by
    have e3 := Heap.lt_size e1
    exact ⟨Nat.ne_of_lt e3, by rw [size_push']; exact Nat.lt_succ_of_lt e3, Heap.get?_push_of_some _ e1⟩
  have er : PySem.W.EachIs (fun u (p : V × D) => ∃ as, PySem.Reads (PySem.W.sortingHeap (hp.push (seqObj "list" its.toArray 0)) hp.objs.size its) u p.2 as) its (ws.zip ds) := by
    have : ∀ {us : List Value} {ps : List (V × D)}, PySem.W.EachIs (fun u (p : V × D) => RelV p.1 u) us ps → (∀ p ∈ ps, Dp X.G (putP ob H as kvs) p.1 p.2) → PySem.W.EachIs (fun u (p : V × D) => ∃ as, PySem.Reads (PySem.W.sortingHeap (hp.push (seqObj "list" its.toArray 0)) hp.objs.size its) u p.2 as) us ps := by
      intro us ps e
      induction e with
      | nil => intro _; exact .nil
      | cons r t ih =>
        intro h
        obtain ⟨as, ra⟩ := Dp.reads J _ _ _ (h _ (by simp)) r
        exact .cons ⟨as, PyProof.Rows.Reads.keeps (fun b o e => PySem.W.sortingHeap_old (k2 b o e).1 (k2 b o e).2.2) ra⟩ (ih fun p hp => h p (by simp [hp]))
    exact this ez hd
  have hlk : (ws.zip ds).length ≤ sizeLine := by rw [hlen]; exact hwz
  have hso2 := PySem.W.SortsAt.data (A := X.A.in1.in1) (prog := X.prog) (w := X.w) (s := { s with heap := PySem.W.sortingHeap (hp.push (seqObj "list" its.toArray 0)) hp.objs.size its, toks := tk }) (PySem.W.each_map (fun p : V × D => p.2) er) (by rw [e2]; exact hal) (by rw [e2]; exact hso) (PySem.W.bound_map fun p hp => by
    have h1 := hdp p.2 (by rw [← e2]; exact List.mem_map_of_mem hp)
    show X.A.units + 1 + 1 + p.2.depth < cLine
    omega)
  apply wpAny_bind
  apply wpAny_holding
  refine wpAny_call_entry slot_list_sort ⟨_, hoL, rfl⟩ entry_list_sort ?_ (args_list_sort _)
  refine PySem.W.list_sort_vals (κ := PySem.W.dataKind (PySem.W.sortingHeap (hp.push (seqObj "list" its.toArray 0)) hp.objs.size its) ((ws.zip ds).map fun p => p.2)) hoL hso2 hits ⟨_, rfl, wpAny_pure ⟨_, rfl, ?_⟩⟩
  obtain ⟨c, hc⟩ := sortedHeap_at (vs := its) (out := (PySem.W.sortVals (PySem.W.dataKind (PySem.W.sortingHeap (hp.push (seqObj "list" its.toArray 0)) hp.objs.size its) ((ws.zip ds).map fun p => p.2)) false its its).toArray) hoL
  have ev := each_vals (PySem.W.sortVals_data (enc := fun p : V × D => p.2) false ez er (by rw [e2]; exact hal))
  have hf : putP ob H as kvs hp.objs.size = none := J.hok.fresh (Nat.le_refl hp.objs.size)
  refine ⟨.ref _, upd (putP ob H as kvs) hp.objs.size (.lst (((ws.zip ds).mergeSort fun p q => leD' p.2 q.2).map (·.1))), J.laid (t' := tk) (fun b o e => ?_) (Nat.le_refl hp.objs.size) ⟨?_, _, c, ev, hc⟩, rfl, q _ hf⟩
  · exact (sortedHeap_old (k2 b o e).1 (k2 b o e).2.1).trans (k2 b o e).2.2
  · rw [List.length_map, List.length_mergeSort, hlen]
    exact hwz
section
variable {X : Cx} {b b' : Bool} {e : Expr} {te : TE} {me : SE} {p apos cpos pos : Pos}
open PyProof.Rows in
theorem pe_sortItems (hc : X.calm = true) (hu : X.A.units + 65 < cLine) (he : PE X e te) (hg : Gl X "sorted") (hm : X.mg "sorted" = none) (hbase : attributeBase e "items" X.env (eval e X.env) = eval e X.env := by rfl) (hline : (apos.endLine == cpos.line) = true := by rfl)
    (hs : starEach [.Call (.Attribute e "items" apos) [] [] cpos] X.env = (false, eval (.Call (.Attribute e "items" apos) [] [] cpos) X.env) :: starEach [] X.env := by rfl) :
    PE X (.Call (.Name "sorted" p) [.Call (.Attribute e "items" apos) [] [] cpos] [] pos) (tSortItems X te) := by
  refine ⟨fun pins s σ H Q I hq => ?_⟩
  refine wpAny_Call_Name_kw (ld_blt I hg hm (u := .builtin "sorted") (by decide +kernel) ?_)
  refine PyProof.Rows.callWith_builtin1 ?_ hs rfl
  rw [hs]
  show wpAny _ _ (spliced ((false, eval (.Call (.Attribute e "items" apos) [] [] cpos) X.env) :: backTo pos (starEach [] X.env))) _ _ s
  refine Calls.spliced_cons ?_
  refine wpAny_Call_method (T := "dict") (id := "dict.items") hbase rfl hline F.plainAttrs_dict F.slot_dict_items F.type_dict_items (thn (he.run pins s σ H _ I hq) fun u s1 ⟨x, H1, I1, rx, d, kvs, ex, hd, q⟩ => ?_)
  subst ex
  obtain rfl : u = Value.ref d := rx
  obtain ⟨hz, hs0, vs, kv, hdo⟩ := dk_rd I1.hok hd
  obtain ⟨ep, hat⟩ := hdo.dictAt
  have lk : kvs.length = vs.length := Paired.length kv
  have I2 : Inv X pins σ H1 { s1 with heap := s1.heap.push { cls := .type "dict_items", data := .fields #[.ref d] } } := I1.kept (t' := s1.toks) fun b ob q => Heap.get?_push_of_some _ q
  refine ⟨hdo.typeIs, hdo.mapOf.noDict, ?_⟩
  show wpAny _ _ (callWith cpos (.builtin "dict.items") [.ref d] [] []) _ X.xe s1
  refine method_meetsIn F.slot_dict_items F.entry_dict_items rfl (PySem.evalArgs_none ⟨rfl, hdo.typeIs, F.args_dict_items_1 _, _, meets_dict_items (mixKind X.prog X.w) d hs0, ⟨vs, hdo⟩, ?_⟩)
  refine Calls.spliced_nil ?_
  exact sort_items hc hu I2 ⟨_, Heap.get?_push_size _ rfl, rfl, rfl⟩ kv (hat.push _) (by omega) q
end
def itD (p : Key × D) : D := .tuple [kD p.1, p.2]
theorem re_putP {K : Fg} {y : Cy} {dr : Option Addr} {env : En} {σ : L2.St} {ob : Addr → Obj} : ∀ (as : List Addr) (kws : List (Key × V)) {F H : Hp}, Re K y dr F env σ H → (∀ t ∈ as, H t = none) → as.Nodup → Re K y dr (putP ob F as kws) env σ (putP ob H as kws) ∧ Ex dr F H (putP ob F as kws) (putP ob H as kws)
  | [], _, F, H, re, _, _ => ⟨re, Ex.refl⟩
  | _ :: _, [], F, H, re, _, _ => ⟨re, Ex.refl⟩
  | a :: as, p :: kws, F, H, re, h, nd => by
    have ha : H a = none := h a (by simp)
    have nd2 := List.nodup_cons.mp nd
    obtain ⟨r1, x1⟩ := re_putP as kws (re.laid (o := .frz (ob a) (.tup [kV p.1, p.2])) ha) (fun t ht => by rw [upd_ne (fun z => nd2.1 (by rw [← z]; exact ht))]; exact h t (List.mem_cons_of_mem _ ht)) nd2.2
    exact ⟨r1, (re.ex ha).trans x1⟩
theorem rvs_items {K : Fg} {F F' : Hp} {ob : Addr → Obj} (sm : Same F F') : ∀ {kvs : List (Key × D)} {kws : List (Key × V)} {as : List Addr}, Rks K F (kdD kvs) kws → (∀ p ∈ kvs, klen p.1) → (∀ t ∈ as, TuO (ob t)) → Paired (fun (t : Addr) (p : Key × V) => F' t = some (.frz (ob t) (.tup [kV p.1, p.2]))) as kws → Rvs K F' (kvs.map itD) (as.map V.ref)
  | [], kws, as, h, _, _, pr => by
    cases h
    cases pr
    exact .nil
  | (k, d) :: r, kws, as, h, hk, ht, pr => by
    obtain ⟨k', v, vs, e0, rfl, rv, h3⟩ := rks_inv h
    have e0 := kD_inj e0
    subst e0
    cases pr with
    | cons e t =>
      refine .cons (.tup (.inl ⟨_, e, ht _ (by simp)⟩) (by show 2 ≤ sizeLine; rw [sizeLine_eq]; decide) (.cons (rv_key (hk _ (by simp))) (.cons (rv.mono sm) .nil))) (rvs_items sm h3 (fun p hp => hk p (List.mem_cons_of_mem _ hp)) (fun t ht' => ht t (List.mem_cons_of_mem _ ht')) t)
def sSortItems (m : SE) : SL := fun env Q => m env fun d => obK (asK d) fun kvs => ((∀ p ∈ kvs, klen p.1) ∧ kvs.length ≤ 16777216) ∧ SrtOk (kvs.map itD) ∧ Q (srt (kvs.map itD))
@[simp] theorem u_sSortItems {m : SE} {env : En} {Q : List D → Prop} : sSortItems m env Q = (m env fun d => obK (asK d) fun kvs => ((∀ p ∈ kvs, klen p.1) ∧ kvs.length ≤ 16777216) ∧ SrtOk (kvs.map itD) ∧ Q (srt (kvs.map itD))) := rfl
theorem mf_sortItems {X : Cx} {a : Expr} {ma : SE} {p apos cpos pos : Pos} (hu : X.A.units + 65 < cLine) (hc : X.calm = true) (hg : Gl X "sorted") (hm : X.mg "sorted" = none) (ha : ME X true a ma) (hbase : attributeBase a "items" X.env (eval a X.env) = eval a X.env := by rfl) (hline : (apos.endLine == cpos.line) = true := by rfl)
    (hs : starEach [.Call (.Attribute a "items" apos) [] [] cpos] X.env = (false, eval (.Call (.Attribute a "items" apos) [] [] cpos) X.env) :: starEach [] X.env := by rfl) :
    MF X (.Call (.Name "sorted" p) [.Call (.Attribute a "items" apos) [] [] cpos] [] pos) (sSortItems ma) := by
  refine ⟨⟨fun pins s σ H Q I hq => (pe_sortItems hc hu ha.run hg hm hbase hline hs).run pins s σ H Q I ?_⟩, fun env P Q k hp => ha.mono _ _ _ (fun d h1 => obK_mono (fun kvs h => ⟨h.1, h.2.1, k _ h.2.2⟩) h1) hp⟩
  obtain ⟨y, dr, F, env, re, hm⟩ := hq
  refine ⟨y, dr, F, env, re, ha.mono _ _ _ (fun d1 h1 v1 H1 F1 r1 s1 w1 => ?_) hm⟩
  cases q : asK d1 with
  | none => rw [q] at h1; exact h1.elim
  | some kvs =>
    rw [q] at h1
    obtain ⟨⟨hk, hz⟩, ok, h1⟩ := h1
    obtain ⟨p', kws, rfl, e1, e2⟩ := w1.asK r1 q
    have hlk := rks_len e2
    refine ⟨p', kws, rfl, e1, fun ob as to fresh nd ln => ?_⟩
    obtain ⟨r2, x2⟩ := re_putP as kws r1 fresh nd
    have atP := putP_at (ob := ob) as kws F1 ln nd
    have rv : Rvs X.G (putP ob F1 as kws) (kvs.map itD) (as.map V.ref) := rvs_items x2.f e2 hk to atP
    have hl : (as.map V.ref).length = (kvs.map itD).length := by rw [List.length_map, List.length_map]; omega
    refine ⟨kvs.map itD, by rw [List.length_map]; omega, fun p hp => ?_, ok.al, ok.so, ok.dp, fun p hp => ?_⟩
    · have hm : p.2 ∈ kvs.map itD := (List.of_mem_zip hp).2
      exact dp_mono r2.rf.sub ((rvs_zip rv p hp).dp (ok.lay _ hm))
    · have := zip_rvs (K := X.G) (F := putP ob F1 as kws) (ps := ((as.map V.ref).zip (kvs.map itD)).mergeSort fun p q => leD' p.2 q.2) fun p hp => rvs_zip rv p (List.mem_mergeSort.mp hp)
      rw [List.map_mergeSort (s := leD') (fun _ _ _ _ => rfl), map_snd_zip hl] at this
      exact new_lst r2 (s1.trans x2) hp (xs := srt (kvs.map itD)) this (by rw [srt_len, List.length_map, sizeLine_eq]; exact hz) h1
end Mi

namespace Mi
open PySem PySem.Spec L2
/-! ### a new dict among several stores -/
def xK (m : SK) (r : SX) : SX := fun env Q => m env fun kvs => r env fun its => Q (.k kvs :: its)
@[simp] theorem u_xK {m : SK} {r : SX} {env : En} {Q : List Sl → Prop} : xK m r env Q = (m env fun kvs => r env fun its => Q (.k kvs :: its)) := rfl
theorem mx_k {X : Cx} {e : Expr} {es : List Expr} {ml : SK} {mr : SX} (ha : MK X e ml) (hr : MX X es mr) (hs : starEach (e :: es) X.env = (false, eval e X.env) :: starEach es X.env := by rfl) : MX X (e :: es) (xK ml mr) := by
  refine ⟨⟨fun pos pins s σ H Q I h => (pa_cons ha.run hr.run hs).run pos pins s σ H Q I ?_⟩, fun env P Q k h => ha.mono _ _ _ (fun d h1 => hr.mono _ _ _ (fun ds h2 => k _ h2) h1) h,
    fun env P h => ha.mono _ _ _ (fun d h1 => hr.mono _ _ _ (fun ds h2 => ⟨congrArg (· + 1) h2.1, h2.2⟩) (hr.len _ _ h1)) h⟩
  obtain ⟨y, dr, F, env, re, hm⟩ := h
  refine ⟨y, dr, F, env, re, ha.mono _ _ _ (fun kvs hd p kws H1 F1 r1 s1 hn hp fr rv => ?_) hm⟩
  obtain ⟨y', ri, hin, out⟩ := r1.keepAll
  refine ⟨y', dr, F1, env, ri, hr.mono _ _ _ (fun its hits ws H2 F2 r2 s2 w2 => ?_) hd⟩
  obtain ⟨o1, o2, o3⟩ := out F2 H2 r2 s2.f
  have hp2 : H2 p = some (.dK kws) := s2.k p _ hp fr.nd
  refine hits (.ref p :: ws) H2 F2 o1 (s1.trans s2) (.cons ⟨p, kws, rfl, hp2, ⟨o2 p fr.nF fr.no (by rw [hp]; simp), fr.nH, fr.nd, fr.no⟩, rv.mono s2.f⟩ (fun _ s' v' hm ho e => ?_) (xall_y o3 w2))
  obtain ⟨q, h1, h2⟩ := xall_own w2 s' v' hm ho
  rw [e] at h1; cases h1
  exact hin p fr.no (by rw [hp]; simp) h2.nH
/-! ### {k: v for ..} -/
def dcGo (g : SG) (t : SB) (mk mv : SE) (env : En) : List D → List (Key × D) → (List (Key × D) → Prop) → Prop
  | [], acc, Q => Q acc
  | d :: ds, acc, Q => g d env fun e1 => t e1 fun k => if k = true then mk e1 fun z => mv e1 fun r => obY (keyOf z) fun key => dcGo g t mk mv env ds (putG acc key r) Q else dcGo g t mk mv env ds acc Q
def sDc (src : SI) (own : List Nat) (g : SG) (t : SB) (mk mv : SE) : SK := fun env Q => src env fun ds => dcGo g t mk mv (wipeE env own) ds [] Q
@[simp] theorem u_sDc {src : SI} {own : List Nat} {g : SG} {t : SB} {mk mv : SE} {env : En} {Q : List (Key × D) → Prop} : sDc src own g t mk mv env Q = (src env fun ds => dcGo g t mk mv (wipeE env own) ds [] Q) := rfl
theorem dcGo_mono {g : SG} {t : SB} {mk mv : SE} (hg : ∀ d env (P Q : En → Prop), (∀ e, P e → Q e) → g d env P → g d env Q) (ht : ∀ env (P Q : Bool → Prop), (∀ d, P d → Q d) → t env P → t env Q) (hk : ∀ env (P Q : D → Prop), (∀ d, P d → Q d) → mk env P → mk env Q) (hv : ∀ env (P Q : D → Prop), (∀ d, P d → Q d) → mv env P → mv env Q) (env : En) :
    ∀ (ds : List D) (acc : List (Key × D)) (P Q : List (Key × D) → Prop), (∀ r, P r → Q r) → dcGo g t mk mv env ds acc P → dcGo g t mk mv env ds acc Q
  | [], acc, P, Q, k, h => k _ h
  | d :: ds, acc, P, Q, k, h => hg _ _ _ _ (fun e1 h1 => ht _ _ _ (fun b hb => by
      cases b with
      | true => rw [if_pos rfl] at hb ⊢; exact hk _ _ _ (fun z hz => hv _ _ _ (fun r hr => obY_mono (fun key h => dcGo_mono hg ht hk hv env ds _ _ _ k h) hr) hz) hb
      | false => rw [if_neg Bool.false_ne_true] at hb ⊢; exact dcGo_mono hg ht hk hv env ds _ _ _ k hb) h1) h
theorem putG_len (kvs : List (Key × D)) (k : Key) (v : D) : (putG kvs k v).length ≤ kvs.length + 1 := by
  unfold putG
  split
  · rw [List.length_map]; omega
  · rw [List.length_append]; simp
theorem dc_it {J : It} {n : Nat} {G : Hp → Prop} {Y : Nat → Hp → V → Hp → Prop} (w : Walk J n G Y) {g : TG} {tt : TT} {tk tv : TE} {vs : List Nat} {σ : L2.St} {H1 : Hp} {D : Addr} {Qd : Hp → Prop} (Pv : Nat → Hp → Prop) (h0 : Pv 0 (upd H1 D (.dK []))) (hG : ∀ i H, i ≤ n → Pv i H → G H)
    (hs : ∀ i x H H', i < n → Pv i H → Y i H x H' → g x (wipe σ vs) H' fun σ2 H2 => wipe σ2 vs = wipe σ vs ∧ tt σ2 H2 fun b H3 =>
      if b = true then tk σ2 H3 fun y H4 => tv σ2 H4 fun z H5 => ∃ kvs k, y = kV k ∧ H5 D = some (.dK kvs) ∧ kvs.length < sizeLine ∧ Pv (i + 1) (upd H5 D (.dK (putK kvs k z))) else Pv (i + 1) H3) (hd : ∀ H, Pv n H → Qd H) :
    ∃ W : Nat → Nat → Hp → Prop, (∃ m, W 0 m (upd H1 D (.dK []))) ∧ ∀ i m H, W i m H →
      (J.stop i H ∧ Qd H) ∨ (J.go i H ∧ ∃ Nx : Hp → Prop, (∀ H', Nx H' → ∃ m', m' < m ∧ W (i + 1) m' H') ∧ ∀ x H', J.yld i H x H' → g x (wipe σ vs) H' fun σ2 H2 => wipe σ2 vs = wipe σ vs ∧ tt σ2 H2 fun b H3 =>
        if b = true then tk σ2 H3 fun y H4 => tv σ2 H4 fun z H5 => ∃ kvs k, y = kV k ∧ H5 D = some (.dK kvs) ∧ kvs.length < sizeLine ∧ Nx (upd H5 D (.dK (putK kvs k z))) else Nx H3) := by
  refine ⟨fun i m H => m = n - i ∧ i ≤ n ∧ Pv i H, ⟨n, by simp, Nat.zero_le _, h0⟩, ?_⟩
  rintro i m H ⟨rfl, hi, p⟩
  have q := hG i H hi p
  by_cases hlt : i < n
  · refine .inr ⟨w.goes i H hlt q, Pv (i + 1), fun H' p' => ⟨n - (i + 1), by omega, rfl, hlt, p'⟩, fun x H' y => hs i x H H' hlt p (w.yields i H x H' hlt q y)⟩
  · have e : i = n := by omega
    subst e
    exact .inl ⟨w.stops H q, hd H p⟩
section
variable {X : Cx} {b b' : Bool} {a c e tg iter kx vx : Expr} {mk mv el : SE} {pos : Pos} {g : SG} {t : SB} {src : SI} {ifs : List Expr} {scope : Scope} {own : List (Str × Nat)}
theorem dc_red (hi : MI X true tg iter src)
    (hg : ∀ (s : Shared) (H : Hp) (C : Addr) (cl : List (Str × Addr)) (fp : List Addr), MG (X.blk s H scope (compEnvC scope cl C X.env) fp) (own.map (·.2)) tg g)
    (ht : ∀ (s : Shared) (H : Hp) (C : Addr) (cl : List (Str × Addr)) (fp : List Addr), MTs (X.blk s H scope (compEnvC scope cl C X.env) fp) ifs t)
    (hk : ∀ (s : Shared) (H : Hp) (C : Addr) (cl : List (Str × Addr)) (fp : List Addr), ME (X.blk s H scope (compEnvC scope cl C X.env) fp) true kx mk)
    (he : ∀ (s : Shared) (H : Hp) (C : Addr) (cl : List (Str × Addr)) (fp : List Addr), ME (X.blk s H scope (compEnvC scope cl C X.env) fp) false vx mv) {σ : L2.St} {H : Hp} {Q : VK} (h : lFK X.G (sDc src (own.map (·.2)) g t mk mv) σ H Q) :
    tDc (lI X.G true src) (lG X.G (own.map (·.2)) g) (lT X.G t) (lE X.G true mk) (lE X.G false mv) (own.map (·.2)) σ H Q := by
  have hg' := hg {} H 0 [] []
  have ht' := ht {} H 0 [] []
  have hk' := hk {} H 0 [] []
  have he' := he {} H 0 [] []
  obtain ⟨y, dr, F, env, re, hm⟩ := h
  refine ⟨y, dr, F, env, re, hi.mono _ _ _ (fun ds hds J H1 F1 G Y re1 s1 hz W gok yok D hD => ?_) hm⟩
  have hHD : H D = none := s1.none (re1.free hD).nd hD
  refine dc_it W (fun i H2 => ∃ F2 accD accV, Re X.G y dr F2 env σ H2 ∧ Ex dr F1 H1 F2 H2 ∧ H2 D = some (.dK accV) ∧ Free y dr F2 env σ D ∧ Rks X.G F2 (kdD accD) accV ∧ accD.length ≤ i ∧ i ≤ ds.length ∧
      dcGo g t mk mv (wipeE env (own.map (·.2))) (ds.drop i) accD fun rs => ∀ p vs H' F', Re X.G y dr F' env σ H' → Ex dr F H F' H' → H p = none → H' p = some (.dK vs) → Free y dr F' env σ p → Rks X.G F' (kdD rs) vs → Q (.ref p) H') ?_ (fun i H2 _ ⟨F2, _, _, _, x2, _⟩ => gok.2 rfl H2 x2.k) ?_ ?_
  · exact ⟨F1, [], [], re1.grown hD, Ex.grown hD, upd_same, re1.free hD, .nil, Nat.le_refl _, Nat.zero_le _, by simpa using hds⟩
  · intro i x H2 H3 hi' ⟨F2, accD, accV, re2, x2, hD2, fr2, rv2, hl2, _, hgo⟩ hy
    obtain ⟨F3, x3, re3, ⟨d, hd, rvd⟩, sm3, hD3⟩ := yok i H2 x H3 hi' (gok.2 rfl H2 x2.k) hy y dr F2 env σ re2 x2.f
    have fr3 : Free y dr F3 env σ D := ⟨hD3 D fr2.nF (by rw [hD2]; simp), fr2.nH, fr2.nd, fr2.no⟩
    have hD3' : H3 D = some (.dK accV) := sm3 _ _ hD2
    obtain ⟨y', rin, out⟩ := re3.blkIn (own.map (·.2))
    have e1 : ds.drop i = d :: ds.drop (i + 1) := by
      have hlt := (List.getElem?_eq_some_iff.mp hd).1
      rw [List.drop_eq_getElem_cons hlt, (List.getElem?_eq_some_iff.mp hd).2]
    rw [e1] at hgo
    have x13 : Ex dr F1 H1 F3 H3 := x2.trans x3
    have back : ∀ (F4 H4 : Hp) (env4 : En) (σ4 : L2.St), Re X.G y' dr F4 env4 σ4 H4 → wipeE env4 (own.map (·.2)) = wipeE env (own.map (·.2)) → wipe σ4 (own.map (·.2)) = wipe σ (own.map (·.2)) → Ex dr F3 H3 F4 H4 →
        Re X.G y dr F4 env σ H4 ∧ H4 D = some (.dK accV) ∧ Free y dr F4 env σ D := fun F4 H4 env4 σ4 r4 we ws x4 => by
      obtain ⟨o1, o2, o3⟩ := out F4 H4 env4 σ4 r4 we ws x4.f
      refine ⟨o1, x4.k _ _ hD3' fr3.nd, ?_, fr3.nH, fr3.nd, fr3.no⟩
      rcases o3 D fr3.nF (by rw [hD3']; simp) with z | ⟨j, s, g1, g2, g3⟩
      · exact z
      · exact absurd g3 (fr3.no j s g1 g2)
    refine ⟨y', dr, F3, _, d, rin, rvd, hg'.mono _ _ _ _ (fun env4 hq F4 σ4 H4 r4 x4 w4 => ?_) (hg'.fr _ _ _ hgo)⟩
    obtain ⟨hq, we⟩ := hq
    have we : wipeE env4 (own.map (·.2)) = wipeE env (own.map (·.2)) := by
      rw [we]
      apply List.ext_getElem?
      intro j
      by_cases hj : j ∈ own.map (·.2)
      · by_cases hl : j < env.length
        · rw [wipeE_in hj hl, wipeE_in hj (by rw [wipeE_length]; exact hl)]
        · rw [List.getElem?_eq_none (by rw [wipeE_length, wipeE_length]; omega), List.getElem?_eq_none (by rw [wipeE_length]; omega)]
      · rw [wipeE_get hj]
    have ww : wipe (wipe σ (own.map (·.2))) (own.map (·.2)) = wipe σ (own.map (·.2)) := by
      apply List.ext_getElem?
      intro j
      by_cases hj : j ∈ own.map (·.2)
      · by_cases hl : j < σ.length
        · rw [wipe_in hj hl, wipe_in hj (by rw [wipe_length]; exact hl)]
        · rw [List.getElem?_eq_none (by rw [wipe_length, wipe_length]; omega), List.getElem?_eq_none (by rw [wipe_length]; omega)]
      · rw [wipe_get hj]
    rw [ww] at w4
    refine ⟨w4, y', dr, F4, env4, r4, ht'.mono _ _ _ (fun k hkk H5 F5 r5 x5 => ?_) hq⟩
    cases k with
    | false =>
      rw [if_neg Bool.false_ne_true] at hkk ⊢
      obtain ⟨o1, o2, o3⟩ := back F5 H5 env4 σ4 r5 we w4 (x4.trans x5)
      exact ⟨F5, accD, accV, o1, x13.trans (x4.trans x5), o2, o3, rv2.mono ((x3.trans x4).trans x5).f, Nat.le_succ_of_le hl2, hi', hkk⟩
    | true =>
      rw [if_pos rfl] at hkk ⊢
      refine ⟨y', dr, F5, env4, r5, hk'.mono _ _ _ (fun z hz v0 H6 F6 r6 x6 w6 => ?_) hkk⟩
      refine ⟨y', dr, F6, env4, r6, he'.mono _ _ _ (fun r hr v H7 F7 r7 x7 w7 => ?_) hz⟩
      cases qk : keyOf z with
      | none => rw [qk] at hr; exact hr.elim
      | some key =>
      rw [qk] at hr
      have hr : dcGo g t mk mv _ _ _ _ := hr
      obtain ⟨o1, o2, o3⟩ := back F7 H7 env4 σ4 r7 we w4 (((x4.trans x5).trans x6).trans x7)
      have rv7 : Rks X.G F7 (kdD (putG accD key r)) (putK accV key v) := rks_put w7.rv (rv2.mono ((((x3.trans x4).trans x5).trans x6).trans x7).f)
      have hlen : (putG accD key r).length ≤ i + 1 := by have := putG_len accD key r; omega
      have hz6 : accV.length < sizeLine := by rw [rks_len rv2]; omega
      refine ⟨accV, key, keyV key qk w6, o2, hz6, F7, putG accD key r, putK accV key v, ?_, ?_, upd_same, o3, rv7, hlen, hi', hr⟩
      · refine ⟨⟨fun q u eq => ?_, o1.rf.sup, o1.rf.new, fun q u eq n => ?_, fun q hq => ?_, fun q hq => ?_, o1.rf.drs, o1.rf.drn⟩, o1.len, fun j s o h1 h2 => ?_, o1.sep⟩
        · have hq : q ≠ D := fun z => by rw [z, o3.nF] at eq; cases eq
          rw [upd_ne hq]; exact o1.rf.sub q u eq
        · have hq : q ≠ D := fun z => by rw [z, o3.nH] at eq; cases eq
          rw [upd_ne hq]; exact o1.rf.gr q u eq n
        · have hqD : q ≠ D := fun z => by rw [z, o3.nH] at hq; exact hq rfl
          rw [upd_ne hqD]; exact o1.rf.dom q hq
        · obtain ⟨q1, q2⟩ := o1.rf.drw q hq
          have hqD : q ≠ D := fun z => o3.nd (by rw [← z]; exact hq.symm)
          exact ⟨q1, q2.at (upd_ne hqD)⟩
        · refine (o1.slot j s o h1 h2).keep (Same.refl _) fun q hq w => ?_
          obtain ⟨c', g1, _, g3, g4, _⟩ := (o1.slot j s o h1 h2).there w
          rw [hq] at g1; cases g1
          have : q ≠ D := fun z => o3.no j s h1 w (by rw [h2, hq, z])
          exact ⟨upd_ne this, g3, g4⟩
      · refine ⟨(x13.trans (((x4.trans x5).trans x6).trans x7)).f, fun q u eq n => ?_⟩
        have hq : q ≠ D := fun z => by rw [z, hD] at eq; cases eq
        rw [upd_ne hq]
        exact (x13.trans (((x4.trans x5).trans x6).trans x7)).k q u eq n
  · intro H2 ⟨F2, accD, accV, re2, x2, hD2, fr2, rv2, hl2, _, hgo⟩
    rw [List.drop_length] at hgo
    exact (show ∀ p vs H' F', _ from hgo) D accV H2 F2 re2 (s1.trans x2) hHD hD2 fr2 rv2
theorem dc_mono (hi : MI X true tg iter src)
    (hg : ∀ (s : Shared) (H : Hp) (C : Addr) (cl : List (Str × Addr)) (fp : List Addr), MG (X.blk s H scope (compEnvC scope cl C X.env) fp) (own.map (·.2)) tg g)
    (ht : ∀ (s : Shared) (H : Hp) (C : Addr) (cl : List (Str × Addr)) (fp : List Addr), MTs (X.blk s H scope (compEnvC scope cl C X.env) fp) ifs t)
    (hk : ∀ (s : Shared) (H : Hp) (C : Addr) (cl : List (Str × Addr)) (fp : List Addr), ME (X.blk s H scope (compEnvC scope cl C X.env) fp) true kx mk)
    (he : ∀ (s : Shared) (H : Hp) (C : Addr) (cl : List (Str × Addr)) (fp : List Addr), ME (X.blk s H scope (compEnvC scope cl C X.env) fp) false vx mv) (env : En) (P Q : List (Key × D) → Prop) (k : ∀ d, P d → Q d) (h : sDc src (own.map (·.2)) g t mk mv env P) : sDc src (own.map (·.2)) g t mk mv env Q :=
  hi.mono _ _ _ (fun ds hd => dcGo_mono (hg {} (fun _ => none) 0 [] []).mono (ht {} (fun _ => none) 0 [] []).mono (hk {} (fun _ => none) 0 [] []).mono (he {} (fun _ => none) 0 [] []).mono _ ds _ _ _ k hd) h
theorem mk_dc (hc : X.calm = true) (hN : X.N.Nodup) (hi : MI X true tg iter src) (ok : BlkOk X.N X.env.scope scope own)
    (hg : ∀ (s : Shared) (H : Hp) (C : Addr) (cl : List (Str × Addr)) (fp : List Addr), MG (X.blk s H scope (compEnvC scope cl C X.env) fp) (own.map (·.2)) tg g)
    (ht : ∀ (s : Shared) (H : Hp) (C : Addr) (cl : List (Str × Addr)) (fp : List Addr), MTs (X.blk s H scope (compEnvC scope cl C X.env) fp) ifs t)
    (hk : ∀ (s : Shared) (H : Hp) (C : Addr) (cl : List (Str × Addr)) (fp : List Addr), ME (X.blk s H scope (compEnvC scope cl C X.env) fp) true kx mk)
    (he : ∀ (s : Shared) (H : Hp) (C : Addr) (cl : List (Str × Addr)) (fp : List Addr), ME (X.blk s H scope (compEnvC scope cl C X.env) fp) false vx mv) (hs : ∀ x, foldedSetIterable iter X.env x = pure x := by intro _; rfl) :
    MK X (.DictComp kx vx [⟨tg, iter, ifs, 0⟩] scope pos) (sDc src (own.map (·.2)) g t mk mv) :=
  ⟨⟨fun pins s σ H Q I h => (pe_dc hc hN hi.run ok (fun a b c d f => (hg a b c d f).run) (fun a b c d f => (ht a b c d f).run) (fun a b c d f => (hk a b c d f).run) (fun a b c d f => (he a b c d f).run) hs).run pins s σ H Q I (dc_red hi hg ht hk he h)⟩, dc_mono hi hg ht hk he⟩
theorem ps_setDc {i : Nat} {y : Str} {py spos : Pos} {wi : TI} {g : TG} {tt : TT} {tk tv : TE} (hc : X.calm = true) (hN : X.N.Nodup) (hy : X.N[i]? = some y) (hyl : X.env.scope.names.lookup y = some .local)
    (hsw : swapsWith (.DictComp kx vx [⟨tg, iter, ifs, 0⟩] scope pos) (some (.Name y py)) spos.line X.env = pure true) (hi : PI X tg iter wi) (ok : BlkOk X.N X.env.scope scope own)
    (hg : ∀ (s : Shared) (H : Hp) (C : Addr) (cl : List (Str × Addr)) (fp : List Addr), PG (X.blk s H scope (compEnvC scope cl C X.env) fp) tg g) (ht : ∀ (s : Shared) (H : Hp) (C : Addr) (cl : List (Str × Addr)) (fp : List Addr), PTs (X.blk s H scope (compEnvC scope cl C X.env) fp) ifs tt)
    (hk : ∀ (s : Shared) (H : Hp) (C : Addr) (cl : List (Str × Addr)) (fp : List Addr), PE (X.blk s H scope (compEnvC scope cl C X.env) fp) kx tk)
    (he : ∀ (s : Shared) (H : Hp) (C : Addr) (cl : List (Str × Addr)) (fp : List Addr), PE (X.blk s H scope (compEnvC scope cl C X.env) fp) vx tv) (hs : ∀ x, foldedSetIterable iter X.env x = pure x := by intro _; rfl) :
    PS X (.Assign [.Name y py] (.DictComp kx vx [⟨tg, iter, ifs, 0⟩] scope pos) spos) (tAsg (tDc wi g tt tk tv (own.map (·.2))) (gName i)) := by
  refine ⟨fun pins s σ H D I h => ?_⟩
  rw [exec_Assign_Name_used _ _ _ _ hsw]
  refine wpAny_bind (wpAny_standAt (wpAny_bind ?_))
  show wpAny _ X.A (do let _ ← comprehension (.DictComp kx vx [⟨tg, iter, ifs, 0⟩] scope pos) scope X.env (firstIterPos [⟨tg, iter, ifs, 0⟩] pos) newDict false (eval iter X.env) (some (assign (.Name y py) X.env))) _ _ s
  have h : tDc wi g tt tk tv (own.map (·.2)) σ H (fun x H1 => gName i x σ H1 D.nx) := h
  refine wpAny_bind (thn (dc_core (Qf := fun _ s' => SP X pins D .next s') hc hN I hi ok hg ht hk he hs h fun L C s' m H' I' q hn f => ?_) fun _ s' hq => wpAny_pure (wpAny_pure hq))
  show wpAny _ _ (assign (.Name y py) X.env (.ref L)) _ _ _
  refine wpAny_assign_Name (store_ok2 (v := V.ref L) I' hN hy (.inl hyl) rfl (fun s2 I2 ⟨a, sb, ha⟩ => ?_) (.inr hyl))
  obtain ⟨f0, f1, f2, f3, f4, f5⟩ := f
  have haC : C ≠ a := by
    rcases ha with z | z
    · rw [z]; exact f1
    · exact fun e => f4 y a z e.symm
  refine ⟨m, hn.sameBut sb haC, fun h3 sb3 => ?_⟩
  exact ⟨_, H', I2.turned (t' := s2.toks) (fun b o hb e => (sb3.2 b hb).trans e) f0 f1 f3 f4 f5, q⟩
theorem sw_trueD {gs : List Comprehension} {py : Pos} {y : Str} {l : Nat} {env : Env} (hk : env.scope.kind = .function) (hy : env.scope.names.lookup y = some .local) (hl : (py.line == pos.line) = true)
    (ha : (scope.names.any fun (n, k) => n == y && (k == .local || k == .cell)) = false) : swapsWith (.DictComp kx vx gs scope pos) (some (.Name y py)) l env = pure true := by
  have ky : env.kindOf y = some .local := hy
  have hb : env.blockKind = .function := by unfold Env.blockKind; rw [hk]; rfl
  unfold swapsWith
  simp only [hb, ky, ha, Expr.pos, hl]
  rfl
theorem ms_dcO {i : Nat} {x : Str} {py spos : Pos} (hc : X.calm = true) (hN : X.N.Nodup) (hy : X.N[i]? = some x) (hyl : X.env.scope.names.lookup x = some .local)
    (hsw : swapsWith (.DictComp kx vx [⟨tg, iter, ifs, 0⟩] scope pos) (some (.Name x py)) spos.line X.env = pure true) (hi : MI X true tg iter src) (ok : BlkOk X.N X.env.scope scope own)
    (hg : ∀ (s : Shared) (H : Hp) (C : Addr) (cl : List (Str × Addr)) (fp : List Addr), MG (X.blk s H scope (compEnvC scope cl C X.env) fp) (own.map (·.2)) tg g)
    (ht : ∀ (s : Shared) (H : Hp) (C : Addr) (cl : List (Str × Addr)) (fp : List Addr), MTs (X.blk s H scope (compEnvC scope cl C X.env) fp) ifs t)
    (hk : ∀ (s : Shared) (H : Hp) (C : Addr) (cl : List (Str × Addr)) (fp : List Addr), ME (X.blk s H scope (compEnvC scope cl C X.env) fp) true kx mk)
    (he : ∀ (s : Shared) (H : Hp) (C : Addr) (cl : List (Str × Addr)) (fp : List Addr), ME (X.blk s H scope (compEnvC scope cl C X.env) fp) false vx mv) (hs : ∀ x, foldedSetIterable iter X.env x = pure x := by intro _; rfl) :
    MS X (.Assign [.Name x py] (.DictComp kx vx [⟨tg, iter, ifs, 0⟩] scope pos) spos) (sOwnD i (sDc src (own.map (·.2)) g t mk mv)) := by
  refine ⟨⟨fun pins s σ H E I h => (ps_setDc (tk := lE X.G true mk) (tv := lE X.G false mv) (tt := lT X.G t) (g := lG X.G (own.map (·.2)) g) (wi := lI X.G true src) hc hN hy hyl hsw hi.run ok (fun a b c d f => (hg a b c d f).run) (fun a b c d f => (ht a b c d f).run) (fun a b c d f => (hk a b c d f).run) (fun a b c d f => (he a b c d f).run) hs).run pins s σ H E I ?_⟩, fun a c env k h => dc_mono hi hg ht hk he _ _ _ (fun _ q => k.nx _ q) h⟩
  refine dc_red hi hg ht hk he ?_
  obtain ⟨y, dr, F, env, re, hm⟩ := h
  refine ⟨y, dr, F, env, re, dc_mono hi hg ht hk he _ _ _ (fun kvs hd p kws H' F' r1 s1 hn hp fr rv => ?_) hm⟩
  exact hd dr F' _ H' (r1.put ⟨p, kws, rfl, hp, rv, fr.nF, fr.nH, fr.nd⟩ fun _ a e j s' _ h1 h2 h3 => by cases e; exact fr.no j s' h1 h2 h3) s1.f
end
end Mi

namespace Mi
open PySem PySem.Spec L2
/-! ### min(xs), max(xs) of rows of data -/
def bestD (gt : Bool) : List D → D
  | [] => .none
  | x :: r => if gt then PySem.W.maxD x r else PySem.W.minD x r
theorem readsAll_each {h : Heap} : ∀ {us : List Value} {ps : List (V × D)}, PySem.W.EachIs (fun u (p : V × D) => ∃ as, PySem.Reads h u p.2 as) us ps → ∃ as, PySem.ReadsAll h us (ps.map (·.2)) as
  | _, _, .nil => ⟨[], .nil⟩
  | _, _, .cons r t => by
    obtain ⟨as, r⟩ := r
    obtain ⟨bs, t⟩ := readsAll_each t
    exact ⟨as ++ bs, .cons r t⟩
theorem depthAll_le {n : Nat} : ∀ {ds : List D}, (∀ d ∈ ds, d.depth ≤ n) → PyData.depthAll ds ≤ n
  | [], _ => Nat.zero_le _
  | d :: ds, h => by
    show max d.depth (PyData.depthAll ds) ≤ n
    have h1 := h d (by simp)
    have h2 := depthAll_le (n := n) (ds := ds) fun x hx => h x (by simp [hx])
    omega
theorem vals_ix {i : Nat} {u : Value} : ∀ {vs : List V} {us : List Value}, Vals vs us → us[i]? = some u → ∃ v, vs[i]? = some v ∧ RelV v u := by
  intro vs us h
  induction h generalizing i with
  | nil => intro e; cases e
  | cons r t ih =>
    intro e
    cases i with
    | zero => cases e; exact ⟨_, rfl, r⟩
    | succ i => exact ih e
def rBest (X : Cx) (gt : Bool) : List V → Hp → VK → Prop := fun xs H Q => ∃ (a : Addr) (vs : List V) (ds : List D), xs = [.ref a] ∧ (SqL X.G H a vs ∨ SqT X.G H a vs) ∧ vs.length = ds.length ∧ (∀ p ∈ vs.zip ds, Dp X.G H p.1 p.2) ∧ ds ≠ [] ∧ PySem.W.AlikeAll ds ∧ (∀ d ∈ ds, d.depth ≤ 60) ∧
  ∀ (i : Nat) (v : V), vs[i]? = some v → ds[i]? = some (bestD gt ds) → Q v H
theorem getD_some {α : Type} {xs : List α} {i : Nat} {d y : α} (h : i < xs.length) (e : xs.getD i d = y) : xs[i]? = some y := by
  rw [List.getD_eq_getElem?_getD, List.getElem?_eq_getElem h] at e
  rw [List.getElem?_eq_getElem h]
  exact congrArg some e
open PySem.W in
theorem cr_best {X : Cx} (gt : Bool) (hc : X.calm = true) (hu : X.A.units + 65 < cLine) : CallR X (.builtin (if gt then "max" else "min")) (rBest X gt) := by
  intro pins s σ H xs us Q I r h
  obtain ⟨a, vs, ds, rfl, hs, hl, hd, hne, hal, hdp, q⟩ := h
  have hh := I.ok.hd hc
  have core : ∀ its : List Value, Vals vs its → (∃ as, ReadsAll s.heap its ds as) := by
    intro its rv
    have ez := zip_vals rv hl
    have e2 := map_snd_zip hl
    have : ∀ {us : List Value} {ps : List (V × D)}, PySem.W.EachIs (fun u (p : V × D) => RelV p.1 u) us ps → (∀ p ∈ ps, Dp X.G H p.1 p.2) → PySem.W.EachIs (fun u (p : V × D) => ∃ as, PySem.Reads s.heap u p.2 as) us ps := by
      intro us ps e
      induction e with
      | nil => intro _; exact .nil
      | cons r t ih => intro h; exact .cons (Dp.reads I _ _ _ (h _ (by simp)) r) (ih fun p hp => h p (by simp [hp]))
    have := readsAll_each (this ez hd)
    rw [e2] at this
    exact this
  obtain ⟨x, xr, rfl⟩ : ∃ x xr, ds = x :: xr := by
    cases ds with
    | nil => exact absurd rfl hne
    | cons x xr => exact ⟨x, xr, rfl⟩
  have hda : PyData.depthAll (x :: xr) ≤ 60 := depthAll_le hdp
  have fin : ∀ (its : List Value) (i : Nat) (u : Value) (h' : Heap) (tk : Nat), Vals vs its → its.toArray[i]? = some u → (x :: xr)[i]? = some (bestD gt (x :: xr)) → (∀ b o, s.heap.get? b = some o → h'.get? b = some o) → EP X pins σ Q u { s with heap := h', toks := tk } := by
    intro its i u h' tk rv hi hb hk
    obtain ⟨v, h1, h2⟩ := vals_ix rv (by rw [List.getElem?_toArray] at hi; exact hi)
    exact ⟨v, H, I.kept hk, h2, q i v h1 hb⟩
  have lenI : ∀ its : List Value, Vals vs its → its.toArray.size = xr.length + 1 := fun its rv => by rw [List.size_toArray, ← Vals.length rv, hl]; rfl
  cases gt with
  | false =>
    rcases hs with hs | hs
    · obtain ⟨its, rv, pl, hz⟩ := I.list hs
      rw [Vals.ref1 r]
      obtain ⟨as, hr⟩ := core its rv
      have hr2 : ReadsAll s.heap its.toArray.toList (x :: xr) as := by simpa using hr
      refine call_min_walkH (iter_listW (A := X.A.in1) hh pl.isList fun s₂ e W st hfp hw hk => ?_)
      refine ⟨_, _, _, _, _, _, _, s.heap, _, rfl, W, st, hfp, by rw [lenI its rv]; omega, hw, hk, cmpIn_lt (A := X.A.in1) hr2 hal (by show X.A.units + 1 + _ < _; omega), fun v s' hP m => ?_⟩
      obtain ⟨h', tk, rfl, hk'⟩ := moved_old e rfl m
      have e1 : its.toArray.size - 1 = xr.length := by rw [lenI its rv]; rfl
      obtain ⟨f1, f2⟩ := argBest_fold dataLt PyData.none x xr xr.length (Nat.le_refl _)
      rw [List.take_length] at f2
      rw [e1] at hP
      exact fin its _ v h' tk rv hP (getD_some (by rw [List.length_cons]; omega) f2) hk'
    · obtain ⟨its, rv, pl, hz⟩ := I.tuple hs
      rw [Vals.ref1 r]
      obtain ⟨as, hr⟩ := core its rv
      have hr2 : ReadsAll s.heap its.toArray.toList (x :: xr) as := by simpa using hr
      refine call_min_walkH (iter_tupleW (A := X.A.in1) hh pl fun s₂ e W st hfp hw hk => ?_)
      refine ⟨_, _, _, _, _, _, _, s.heap, _, rfl, W, st, hfp, by rw [lenI its rv]; omega, hw, hk, cmpIn_lt (A := X.A.in1) hr2 hal (by show X.A.units + 1 + _ < _; omega), fun v s' hP m => ?_⟩
      obtain ⟨h', tk, rfl, hk'⟩ := moved_old e rfl m
      have e1 : its.toArray.size - 1 = xr.length := by rw [lenI its rv]; rfl
      obtain ⟨f1, f2⟩ := argBest_fold dataLt PyData.none x xr xr.length (Nat.le_refl _)
      rw [List.take_length] at f2
      rw [e1] at hP
      exact fin its _ v h' tk rv hP (getD_some (by rw [List.length_cons]; omega) f2) hk'
  | true =>
    rcases hs with hs | hs
    · obtain ⟨its, rv, pl, hz⟩ := I.list hs
      rw [Vals.ref1 r]
      obtain ⟨as, hr⟩ := core its rv
      have hr2 : ReadsAll s.heap its.toArray.toList (x :: xr) as := by simpa using hr
      refine call_max_walkH (iter_listW (A := X.A.in1) hh pl.isList fun s₂ e W st hfp hw hk => ?_)
      refine ⟨_, _, _, _, _, _, _, s.heap, _, rfl, W, st, hfp, by rw [lenI its rv]; omega, hw, hk, cmpIn_gt (A := X.A.in1) hr2 hal (by show X.A.units + 1 + _ < _; omega), fun v s' hP m => ?_⟩
      obtain ⟨h', tk, rfl, hk'⟩ := moved_old e rfl m
      have e1 : its.toArray.size - 1 = xr.length := by rw [lenI its rv]; rfl
      obtain ⟨f1, f2⟩ := argBest_fold (fun a b => dataLt b a) PyData.none x xr xr.length (Nat.le_refl _)
      rw [List.take_length] at f2
      rw [e1] at hP
      exact fin its _ v h' tk rv hP (getD_some (by rw [List.length_cons]; omega) f2) hk'
    · obtain ⟨its, rv, pl, hz⟩ := I.tuple hs
      rw [Vals.ref1 r]
      obtain ⟨as, hr⟩ := core its rv
      have hr2 : ReadsAll s.heap its.toArray.toList (x :: xr) as := by simpa using hr
      refine call_max_walkH (iter_tupleW (A := X.A.in1) hh pl fun s₂ e W st hfp hw hk => ?_)
      refine ⟨_, _, _, _, _, _, _, s.heap, _, rfl, W, st, hfp, by rw [lenI its rv]; omega, hw, hk, cmpIn_gt (A := X.A.in1) hr2 hal (by show X.A.units + 1 + _ < _; omega), fun v s' hP m => ?_⟩
      obtain ⟨h', tk, rfl, hk'⟩ := moved_old e rfl m
      have e1 : its.toArray.size - 1 = xr.length := by rw [lenI its rv]; rfl
      obtain ⟨f1, f2⟩ := argBest_fold (fun a b => dataLt b a) PyData.none x xr xr.length (Nat.le_refl _)
      rw [List.take_length] at f2
      rw [e1] at hP
      exact fin its _ v h' tk rv hP (getD_some (by rw [List.length_cons]; omega) f2) hk'
structure BestOk (xs : List D) : Prop where
  ne : xs ≠ []
  lay : ∀ d ∈ xs, d.canLay0 = true
  al : PySem.W.AlikeAll xs
  dp : ∀ d ∈ xs, d.depth ≤ 60
def sBest (gt : Bool) (m : SE) : SE := fun env Q => m env fun d => obL (seqOf d) fun xs => BestOk xs ∧ Q (bestD gt xs)
@[simp] theorem u_sBest {gt : Bool} {m : SE} {env : En} {Q : D → Prop} : sBest gt m env Q = (m env fun d => obL (seqOf d) fun xs => BestOk xs ∧ Q (bestD gt xs)) := rfl
section
variable {X : Cx} {b b' : Bool} {a : Expr} {ma : SE} {pos : Pos}
theorem best_red {gt : Bool} (ha : ME X true a ma) {σ : L2.St} {H : Hp} {Q : VK} (hq : lE X.G b' (sBest gt ma) σ H Q) : tCons (lE X.G true ma) tNil σ H fun vs H1 => rBest X gt vs H1 Q := by
  obtain ⟨y, dr, F, env, re, hm⟩ := hq
  refine ⟨y, dr, F, env, re, ha.mono _ _ _ (fun d1 h1 v1 H1 F1 r1 s1 w1 => ?_) hm⟩
  cases q : seqOf d1 with
  | none => rw [q] at h1; exact h1.elim
  | some xs =>
    rw [q] at h1
    obtain ⟨ok, h1⟩ := h1
    have h1 : ∀ v H' F', _ := h1
    have fin : ∀ {vs : List V}, Rvs X.G F1 xs vs → ∀ (i : Nat) (v : V), vs[i]? = some v → xs[i]? = some (bestD gt xs) → Q v H1 := by
      intro vs rv i v e1 e2
      obtain ⟨v', e3, e4⟩ := rv.get e2
      rw [e1] at e3; cases e3
      exact h1 v H1 F1 r1 s1 (.inl e4)
    cases d1 with
    | list zs =>
      cases q
      obtain ⟨a1, vs, rfl, e1, z1, rv⟩ := w1.list r1
      refine ⟨a1, vs, xs, rfl, .inl (SqL.of e1), rv.length.symm, fun p hp => ?_, ok.ne, ok.al, ok.dp, fin rv⟩
      have hm : p.2 ∈ xs := (List.of_mem_zip hp).2
      exact dp_mono r1.rf.sub ((rvs_zip rv p hp).dp (ok.lay _ hm))
    | tuple zs =>
      cases q
      obtain ⟨a1, vs, rfl, e1, z1, rv⟩ := w1.tuple r1
      refine ⟨a1, vs, xs, rfl, .inr (re_tuple r1 e1), rv.length.symm, fun p hp => ?_, ok.ne, ok.al, ok.dp, fin rv⟩
      have hm : p.2 ∈ xs := (List.of_mem_zip hp).2
      exact dp_mono r1.rf.sub ((rvs_zip rv p hp).dp (ok.lay _ hm))
    | _ => cases q
theorem best_mono {gt : Bool} (ha : ME X true a ma) (env : En) (P Q : D → Prop) (k : ∀ d, P d → Q d) (hp : sBest gt ma env P) : sBest gt ma env Q := ha.mono _ _ _ (fun d h1 => obL_mono (fun xs h => ⟨h.1, k _ h.2⟩) h1) hp
theorem me_minB {p : Pos} (hc : X.calm = true) (hu : X.A.units + 65 < cLine) (hg : Gl X "min") (hm : X.mg "min" = none) (ha : ME X true a ma) (he : starEach [a] X.env = (false, eval a X.env) :: starEach [] X.env := by rfl) (hpl : (backTo pos (starEach [] X.env)).any (·.1) = false := by rfl) : ME X b' (.Call (.Name "min" p) [a] [] pos) (sBest false ma) :=
  ⟨⟨fun pins s σ H Q I hq => (pe_callB (cr_best false hc hu) hg hm (by decide +kernel) (pa_cons ha.run pa_nil he) (by decide) (by decide) he hpl).run pins s σ H Q I (best_red ha hq)⟩, best_mono ha⟩
theorem me_maxB {p : Pos} (hc : X.calm = true) (hu : X.A.units + 65 < cLine) (hg : Gl X "max") (hm : X.mg "max" = none) (ha : ME X true a ma) (he : starEach [a] X.env = (false, eval a X.env) :: starEach [] X.env := by rfl) (hpl : (backTo pos (starEach [] X.env)).any (·.1) = false := by rfl) : ME X b' (.Call (.Name "max" p) [a] [] pos) (sBest true ma) :=
  ⟨⟨fun pins s σ H Q I hq => (pe_callB (cr_best true hc hu) hg hm (by decide +kernel) (pa_cons ha.run pa_nil he) (by decide) (by decide) he hpl).run pins s σ H Q I (best_red ha hq)⟩, best_mono ha⟩
end
/-! what the least is -/
theorem fold_best {α : Type} (lt : α → α → Bool) (as : ∀ a b c, lt b a = false → lt c b = false → lt c a = false) (asy : ∀ a b, lt a b = true → lt b a = false) : ∀ (xs : List α) (x : α), (xs.foldl (fun a y => if lt y a then y else a) x) ∈ x :: xs ∧ ∀ y ∈ x :: xs, lt y (xs.foldl (fun a y => if lt y a then y else a) x) = false
  | [], x => ⟨by simp, fun y hy => by
      rw [List.mem_singleton.mp hy]
      cases q : lt x x with
      | false => exact q
      | true => have := asy x x q; rw [q] at this; cases this⟩
  | z :: r, x => by
    rw [List.foldl_cons]
    obtain ⟨h1, h2⟩ := fold_best lt as asy r (if lt z x then z else x)
    have irr : ∀ a, lt a a = false := fun a => by
      cases q : lt a a with
      | false => rfl
      | true => have := asy a a q; rw [q] at this; cases this
    have hx := h2 _ (List.mem_cons_self ..)
    generalize List.foldl (fun a y => if lt y a then y else a) (if lt z x then z else x) r = m at *
    cases c : lt z x with
    | true =>
      rw [if_pos c] at h1 hx h2
      refine ⟨List.mem_cons_of_mem _ h1, fun y hy => ?_⟩
      rcases List.mem_cons.mp hy with rfl | hy
      · exact as m z y hx (asy _ _ c)
      · rcases List.mem_cons.mp hy with rfl | hy
        · exact hx
        · exact h2 y (List.mem_cons_of_mem _ hy)
    | false =>
      rw [if_neg (by rw [c]; simp)] at h1 hx h2
      refine ⟨?_, fun y hy => ?_⟩
      · rcases List.mem_cons.mp h1 with z1 | z1
        · rw [z1]; simp
        · exact List.mem_cons_of_mem _ (List.mem_cons_of_mem _ z1)
      · rcases List.mem_cons.mp hy with rfl | hy
        · exact hx
        · rcases List.mem_cons.mp hy with rfl | hy
          · exact as m x y hx c
          · exact h2 y (List.mem_cons_of_mem _ hy)
/-- min of a row of coded things -/
theorem min_enc {α : Type} (enc : α → D) (lt : α → α → Bool) (hlt : ∀ a b, PySem.W.dataLt (enc a) (enc b) = lt a b) : ∀ (xs : List α) (x : α), PySem.W.minD (enc x) (xs.map enc) = enc (xs.foldl (fun a y => if lt y a then y else a) x)
  | [], x => rfl
  | z :: r, x => by
    show PySem.W.minD (if PySem.W.dataLt (enc z) (enc x) = true then enc z else enc x) (r.map enc) = _
    rw [hlt]
    cases c : lt z x with
    | true => rw [if_pos rfl, min_enc enc lt hlt r z, List.foldl_cons, c]; rfl
    | false => rw [if_neg (by simp), min_enc enc lt hlt r x, List.foldl_cons, c]; rfl
end Mi

namespace Mi
open PySem PySem.Spec L2
/-! ### plain helpers: xs[i] = v, zip, enumerate over coded rows -/
def setK (xs : List D) (d ix : D) (P : List D → Prop) : Prop := match ix with
  | .int k => (match ixN xs.length k with
    | some j => P (xs.set j d)
    | none => False)
  | _ => False
@[simp] theorem u_sSet {i : Nat} {mi mv : SE} {K : Ks} {env : En} : sSet i mi mv K env = (ownL env i fun xs => mv env fun d => mi env fun ix => setK xs d ix fun ys => K.nx (env.set i (.l ys))) := rfl
theorem setK_at {xs : List D} {d : D} {k : Int} {P : List D → Prop} (h0 : 0 ≤ k) (h1 : k < xs.length) : setK xs d (.int k) P = P (xs.set k.toNat d) := by
  have e : ixN xs.length k = some k.toNat := by unfold ixN; rw [if_pos h0, if_pos h1]
  show (match ixN xs.length k with | some j => P (xs.set j d) | none => False) = _
  rw [e]
theorem setK_end {xs : List D} {a d : D} {P : List D → Prop} : setK (xs ++ [a]) d (.int (-1)) P = P (xs ++ [d]) := by
  have e : ixN (xs ++ [a]).length (-1) = some xs.length := by
    unfold ixN
    rw [if_neg (by omega), if_pos (by simp; omega)]
    simp; omega
  show (match ixN (xs ++ [a]).length (-1) with | some j => P ((xs ++ [a]).set j d) | none => False) = _
  rw [e]
  simp
theorem dI_set (xs : List Int) (i : Nat) (a : Int) : (dInts xs).set i (.int a) = dInts (xs.set i a) := by unfold dInts; rw [List.map_set]
theorem dI_eq {α : Type} (xs : List α) (f : α → Int) : (xs.map fun a => PyData.int (f a)) = dInts (xs.map f) := by unfold dInts; rw [List.map_map]; rfl
def enumI {α : Type} : Int → List α → List (Int × α)
  | _, [] => []
  | k, a :: r => (k, a) :: enumI (k + 1) r
theorem enumL_map {α : Type} (f : α → D) : ∀ (k : Int) (xs : List α), enumL k (xs.map f) = (enumI k xs).map fun p => .tuple [.int p.1, f p.2]
  | _, [] => rfl
  | k, x :: xs => by simp [enumL, enumI, enumL_map f (k + 1) xs]
theorem enumI_len {α : Type} : ∀ (k : Int) (xs : List α), (enumI k xs).length = xs.length
  | _, [] => rfl
  | k, x :: xs => by simp [enumI, enumI_len (k + 1) xs]
theorem enumI_app {α : Type} : ∀ (k : Int) (xs ys : List α), enumI k (xs ++ ys) = enumI k xs ++ enumI (k + xs.length) ys
  | k, [], ys => by simp [enumI]
  | k, x :: xs, ys => by
    simp only [List.cons_append, enumI, enumI_app (k + 1) xs ys, List.length_cons]
    rw [show k + 1 + (xs.length : Int) = k + ((xs.length + 1 : Nat) : Int) by omega]
theorem enumI_range {α : Type} (f : Nat → α) : ∀ (n s : Nat), enumI (s : Int) ((List.range' s n).map f) = (List.range' s n).map fun k : Nat => ((k : Int), f k)
  | 0, _ => rfl
  | n + 1, s => by
    have := enumI_range f n (s + 1)
    simp only [List.range'_succ, List.map_cons, enumI]
    rw [show (s : Int) + 1 = ((s + 1 : Nat) : Int) by omega, this]
theorem enumI_map {α β : Type} (f : α → β) : ∀ (k : Int) (xs : List α), enumI k (xs.map f) = (enumI k xs).map fun p => (p.1, f p.2)
  | _, [] => rfl
  | k, x :: xs => by simp [enumI, enumI_map f (k + 1) xs]
theorem enumI_get {α : Type} : ∀ (k : Int) (xs : List α) (i : Nat), (enumI k xs)[i]? = (xs[i]?).map fun a => (k + (i : Int), a)
  | _, [], _ => by simp [enumI]
  | k, x :: xs, 0 => by simp [enumI]
  | k, x :: xs, i + 1 => by
    simp only [enumI, List.getElem?_cons_succ, enumI_get (k + 1) xs i]
    congr 1
    funext a
    rw [show k + 1 + (i : Int) = k + ((i + 1 : Nat) : Int) by omega]
/-! ### coded things: == is equality -/
def flatD : Nat → D → Bool
  | 0, _ => false
  | n + 1, .list xs => xs.all (flatD n)
  | n + 1, .tuple xs => xs.all (flatD n)
  | _, .none => true
  | _, .bool _ => true
  | _, .int _ => true
  | _, .str s => (PyData.str s).canLay0
  | _, _ => false
theorem flat_lay : ∀ (n : Nat) (d : D), flatD n d = true → d.canLay0 = true ∧ d.depth ≤ n
  | 0, d, h => by cases h
  | n + 1, .none, h => ⟨rfl, Nat.zero_le _⟩
  | n + 1, .bool b, h => ⟨rfl, Nat.zero_le _⟩
  | n + 1, .int i, h => ⟨rfl, Nat.zero_le _⟩
  | n + 1, .str s, h => ⟨h, Nat.zero_le _⟩
  | n + 1, .dict _, h => nomatch h
  | n + 1, .list xs, h => by
    have h : xs.all (flatD n) = true := h
    have : ∀ ys : List D, ys.all (flatD n) = true → PyData.canLayAll0 ys = true ∧ PyData.depthAll ys ≤ n := by
      intro ys
      induction ys with
      | nil => intro _; exact ⟨rfl, Nat.zero_le _⟩
      | cons y ys ih =>
        intro hy
        rw [List.all_cons, Bool.and_eq_true] at hy
        obtain ⟨a, b⟩ := flat_lay n y hy.1
        obtain ⟨c, d⟩ := ih hy.2
        refine ⟨?_, ?_⟩
        · show (PyData.canLay0 y && PyData.canLayAll0 ys) = true
          rw [a, c]; rfl
        · show max (PyData.depth y) (PyData.depthAll ys) ≤ n
          omega
    obtain ⟨a, b⟩ := this xs h
    exact ⟨a, by show PyData.depthAll xs + 1 ≤ n + 1; omega⟩
  | n + 1, .tuple xs, h => by
    have h : xs.all (flatD n) = true := h
    have : ∀ ys : List D, ys.all (flatD n) = true → PyData.canLayAll0 ys = true ∧ PyData.depthAll ys ≤ n := by
      intro ys
      induction ys with
      | nil => intro _; exact ⟨rfl, Nat.zero_le _⟩
      | cons y ys ih =>
        intro hy
        rw [List.all_cons, Bool.and_eq_true] at hy
        obtain ⟨a, b⟩ := flat_lay n y hy.1
        obtain ⟨c, d⟩ := ih hy.2
        refine ⟨?_, ?_⟩
        · show (PyData.canLay0 y && PyData.canLayAll0 ys) = true
          rw [a, c]; rfl
        · show max (PyData.depth y) (PyData.depthAll ys) ≤ n
          omega
    obtain ⟨a, b⟩ := this xs h
    exact ⟨a, by show PyData.depthAll xs + 1 ≤ n + 1; omega⟩
theorem flat_shaped {n : Nat} {d : D} (h : flatD n d = true) (hn : n ≤ 64 := by decide) : SeqAt.shaped d = true := by
  obtain ⟨a, b⟩ := flat_lay n d h
  exact Bool.and_eq_true_iff.mpr ⟨a, decide_eq_true (by omega)⟩
@[simp] theorem flat_i {n : Nat} {i : Int} : flatD (n + 1) (.int i) = true := rfl
@[simp] theorem flat_s {n : Nat} {i : Str} : flatD (n + 1) (.str i) = (PyData.str i).canLay0 := rfl
@[simp] theorem flat_b {n : Nat} {i : Bool} : flatD (n + 1) (.bool i) = true := rfl
@[simp] theorem flat_n {n : Nat} : flatD (n + 1) .none = true := rfl
@[simp] theorem flat_l {n : Nat} {xs : List D} : flatD (n + 1) (.list xs) = xs.all (flatD n) := rfl
@[simp] theorem flat_t {n : Nat} {xs : List D} : flatD (n + 1) (.tuple xs) = xs.all (flatD n) := rfl
/-- a way to write things as data: == tells them apart -/
structure Cod {α : Type} [DecidableEq α] (enc : α → D) : Prop where
  eq : ∀ a b, PyData.eqv (enc a) (enc b) = decide (a = b)
theorem cod_int : Cod PyData.int := ⟨fun _ _ => rfl⟩
theorem cod_str : Cod PyData.str := ⟨fun _ _ => rfl⟩
theorem flat_up : ∀ (n : Nat) (d : D), flatD n d = true → flatD (n + 1) d = true := by
  intro n
  induction n with
  | zero => intro d h; cases h
  | succ n ih =>
    intro d h
    cases d with
    | list xs =>
      have h : xs.all (flatD n) = true := h
      show xs.all (flatD (n + 1)) = true
      rw [List.all_eq_true] at h ⊢
      exact fun x hx => ih x (h x hx)
    | tuple xs =>
      have h : xs.all (flatD n) = true := h
      show xs.all (flatD (n + 1)) = true
      rw [List.all_eq_true] at h ⊢
      exact fun x hx => ih x (h x hx)
    | dict _ => cases h
    | none => rfl
    | bool _ => rfl
    | int _ => rfl
    | str _ => exact h
section
variable {α : Type} [DecidableEq α] {enc : α → D} {n : Nat}
theorem Cod.eqvAll (h : Cod enc) : ∀ xs ys : List α, PyData.eqvAll (xs.map enc) (ys.map enc) = decide (xs = ys)
  | [], [] => rfl
  | [], _ :: _ => rfl
  | _ :: _, [] => rfl
  | x :: xs, y :: ys => by
    show (PyData.eqv (enc x) (enc y) && PyData.eqvAll (xs.map enc) (ys.map enc)) = _
    rw [Cod.eqvAll h xs ys, h.eq]
    by_cases h1 : x = y <;> by_cases h2 : xs = ys <;> simp [h1, h2]
theorem flats {xs : List α} (h : ∀ x ∈ xs, flatD n (enc x) = true) : (xs.map enc).all (flatD n) = true := by
  rw [List.all_eq_true]
  intro d hd
  obtain ⟨a, ha, rfl⟩ := List.mem_map.mp hd
  exact h a ha
theorem Cod.list (h : Cod enc) : Cod (fun xs : List α => PyData.list (xs.map enc)) := ⟨fun a b => h.eqvAll a b⟩
theorem Cod.tup (h : Cod enc) : Cod (fun xs : List α => PyData.tuple (xs.map enc)) := ⟨fun a b => h.eqvAll a b⟩
theorem Cod.pair {β : Type} [DecidableEq β] {enc2 : β → D} (h : Cod enc) (h2 : Cod enc2) : Cod (fun p : α × β => PyData.tuple [enc p.1, enc2 p.2]) := by
  refine ⟨fun a b => ?_⟩
  show (PyData.eqv (enc a.1) (enc b.1) && (PyData.eqv (enc2 a.2) (enc2 b.2) && true)) = _
  rw [h.eq, h2.eq]
  obtain ⟨a1, a2⟩ := a
  obtain ⟨b1, b2⟩ := b
  by_cases h1 : a1 = b1 <;> by_cases h2 : a2 = b2 <;> simp [h1, h2]
theorem Cod.trip {β γ : Type} [DecidableEq β] [DecidableEq γ] {enc2 : β → D} {enc3 : γ → D} (h : Cod enc) (h2 : Cod enc2) (h3 : Cod enc3) : Cod (fun p : α × β × γ => PyData.tuple [enc p.1, enc2 p.2.1, enc3 p.2.2]) := by
  refine ⟨fun a b => ?_⟩
  show (PyData.eqv (enc a.1) (enc b.1) && (PyData.eqv (enc2 a.2.1) (enc2 b.2.1) && (PyData.eqv (enc3 a.2.2) (enc3 b.2.2) && true))) = _
  rw [h.eq, h2.eq, h3.eq]
  obtain ⟨a1, a2, a3⟩ := a
  obtain ⟨b1, b2, b3⟩ := b
  by_cases h1 : a1 = b1 <;> by_cases h2 : a2 = b2 <;> by_cases h3 : a3 = b3 <;> simp [h1, h2, h3]
theorem Cod.eqB (h : Cod enc) {a b : α} (ha : flatD n (enc a) = true) (hb : flatD n (enc b) = true) (hn : n ≤ 64) : eqB (enc a) (enc b) = some (decide (a = b)) := by
  have he := h.eq a b
  have sa := flat_shaped ha hn
  have sb := flat_shaped hb hn
  unfold Mi.eqB
  split
  · rename_i i j e1 e2
    rw [e1, e2] at he
    rw [← he]; rfl
  · rename_i i j e1 e2
    rw [e1, e2] at he
    rw [← he]; rfl
  · rename_i i j e1 e2
    rw [e1, e2] at he
    rw [← he]; rfl
  · rw [if_pos ⟨sa, sb⟩, he]
theorem Cod.eqD (h : Cod enc) {a b : α} (ha : flatD n (enc a) = true) (hb : flatD n (enc b) = true) (hn : n ≤ 64 := by decide) : eqD (enc a) (enc b) = some (.bool (decide (a = b))) := by
  unfold Mi.eqD; rw [h.eqB ha hb hn]; rfl
theorem Cod.neD (h : Cod enc) {a b : α} (ha : flatD n (enc a) = true) (hb : flatD n (enc b) = true) (hn : n ≤ 64 := by decide) : neD (enc a) (enc b) = some (.bool (!decide (a = b))) := by
  unfold Mi.neD; rw [h.eqB ha hb hn]; rfl
theorem Cod.any (h : Cod enc) (xs : List α) (a : α) : ((xs.map enc).any fun z => PyData.eqv z (enc a)) = decide (a ∈ xs) := by
  induction xs with
  | nil => rfl
  | cons y ys ih =>
    show (PyData.eqv (enc y) (enc a) || (ys.map enc).any fun z => PyData.eqv z (enc a)) = _
    rw [ih, h.eq]
    by_cases h1 : a = y
    · subst h1; simp
    · have : ¬ y = a := fun z => h1 z.symm
      simp [h1, this]
theorem shL {xs : List α} (h : ∀ x ∈ xs, flatD n (enc x) = true) (hn : n + 1 ≤ 64) : SeqAt.shaped (.list (xs.map enc)) = true := flat_shaped (n := n + 1) (flats h) hn
theorem shT {xs : List α} (h : ∀ x ∈ xs, flatD n (enc x) = true) (hn : n + 1 ≤ 64) : SeqAt.shaped (.tuple (xs.map enc)) = true := flat_shaped (n := n + 1) (flats h) hn
theorem inB_l {x : D} {ds : List D} (h1 : SeqAt.shaped x = true) (h2 : SeqAt.shaped (.list ds) = true) : inB x (.list ds) = some (ds.any fun z => PyData.eqv z x) := by
  unfold inB
  cases x <;> exact if_pos ⟨h1, h2⟩
theorem inB_t {x : D} {ds : List D} (h1 : SeqAt.shaped x = true) (h2 : SeqAt.shaped (.tuple ds) = true) : inB x (.tuple ds) = some (ds.any fun z => PyData.eqv z x) := by
  unfold inB
  cases x <;> exact if_pos ⟨h1, h2⟩
theorem Cod.inL (h : Cod enc) {xs : List α} {a : α} (ha : flatD n (enc a) = true) (hx : ∀ x ∈ xs, flatD n (enc x) = true) (hn : n + 1 ≤ 64) : inB (enc a) (.list (xs.map enc)) = some (decide (a ∈ xs)) := by
  rw [← h.any xs a]
  exact inB_l (flat_shaped ha (by omega)) (shL hx hn)
theorem Cod.inT (h : Cod enc) {xs : List α} {a : α} (ha : flatD n (enc a) = true) (hx : ∀ x ∈ xs, flatD n (enc x) = true) (hn : n + 1 ≤ 64) : inB (enc a) (.tuple (xs.map enc)) = some (decide (a ∈ xs)) := by
  rw [← h.any xs a]
  exact inB_t (flat_shaped ha (by omega)) (shT hx hn)
theorem Cod.inDL (h : Cod enc) {xs : List α} {a : α} (ha : flatD n (enc a) = true) (hx : ∀ x ∈ xs, flatD n (enc x) = true) (hn : n + 1 ≤ 64 := by decide) : inD (enc a) (.list (xs.map enc)) = some (.bool (decide (a ∈ xs))) := by unfold inD; rw [h.inL ha hx hn]; rfl
theorem Cod.inDT (h : Cod enc) {xs : List α} {a : α} (ha : flatD n (enc a) = true) (hx : ∀ x ∈ xs, flatD n (enc x) = true) (hn : n + 1 ≤ 64 := by decide) : inD (enc a) (.tuple (xs.map enc)) = some (.bool (decide (a ∈ xs))) := by unfold inD; rw [h.inT ha hx hn]; rfl
theorem Cod.ninDL (h : Cod enc) {xs : List α} {a : α} (ha : flatD n (enc a) = true) (hx : ∀ x ∈ xs, flatD n (enc x) = true) (hn : n + 1 ≤ 64 := by decide) : ninD (enc a) (.list (xs.map enc)) = some (.bool (!decide (a ∈ xs))) := by unfold ninD; rw [h.inL ha hx hn]; rfl
theorem Cod.ninDT (h : Cod enc) {xs : List α} {a : α} (ha : flatD n (enc a) = true) (hx : ∀ x ∈ xs, flatD n (enc x) = true) (hn : n + 1 ≤ 64 := by decide) : ninD (enc a) (.tuple (xs.map enc)) = some (.bool (!decide (a ∈ xs))) := by unfold ninD; rw [h.inT ha hx hn]; rfl
theorem Cod.idx (h : Cod enc) {xs : List α} {a : α} (ha : flatD n (enc a) = true) (hx : ∀ x ∈ xs, flatD n (enc x) = true) (hn : n + 1 ≤ 64 := by decide) : idxL (xs.map enc) (enc a) = (xs.findIdx? fun z => decide (z = a)).map fun j => PyData.int (j : Int) := by
  unfold idxL
  rw [if_pos ⟨shL hx hn, flat_shaped ha (by omega)⟩, List.findIdx?_map]
  have : ((fun z => PyData.eqv z (enc a)) ∘ enc) = fun z => decide (z = a) := funext fun z => h.eq z a
  rw [this]
theorem Cod.cnt (h : Cod enc) {xs : List α} {a : α} (ha : flatD n (enc a) = true) (hx : ∀ x ∈ xs, flatD n (enc x) = true) (hn : n + 1 ≤ 64 := by decide) : cntL (xs.map enc) (enc a) = some (.int ((xs.count a : Nat) : Int)) := by
  unfold cntL
  rw [if_pos ⟨shL hx hn, flat_shaped ha (by omega)⟩, List.countP_map]
  have : ((fun z => PyData.eqv z (enc a)) ∘ enc) = fun z => z == a := funext fun z => h.eq z a
  rw [this]; rfl
end
end Mi

namespace Mi
open PySem PySem.Spec L2
/-! ### plain helpers: dicts -/
theorem mergeG_nodup : ∀ (more kvs : List (Key × D)), ((kvs ++ more).map (·.1)).Nodup → mergeG kvs more = kvs ++ more
  | [], kvs, _ => by simp [mergeG]
  | p :: r, kvs, h => by
    have e : putG kvs p.1 p.2 = kvs ++ [p] := by
      unfold putG
      rw [if_neg]
      rw [List.any_eq_true]
      rintro ⟨q, hq, e⟩
      rw [List.map_append, List.nodup_append] at h
      exact h.2.2 q.1 (List.mem_map_of_mem hq) p.1 (by simp) (by simpa using e)
    show mergeG (putG kvs p.1 p.2) r = _
    rw [e, mergeG_nodup r (kvs ++ [p]) (by simpa using h)]
    simp

theorem pairsOf_map {α : Type} (k : α → Key) (f : α → D) : ∀ xs : List α, pairsOf (xs.map fun a => .tuple [kD (k a), f a]) = some (xs.map fun a => (k a, f a))
  | [] => rfl
  | x :: xs => by
    show (keyOf (kD (k x))).bind (fun q => (pairsOf (xs.map _)).map fun l => (q, f x) :: l) = _
    rw [pairsOf_map k f xs, keyOf_kD]; rfl
theorem getG_nodup {β : Type} : ∀ (kvs : List (Key × β)), (kvs.map (·.1)).Nodup → ∀ p ∈ kvs, getG kvs p.1 = some p.2
  | [], _, p, hp => by cases hp
  | q :: r, h, p, hp => by
    rw [List.map_cons, List.nodup_cons] at h
    rcases List.mem_cons.mp hp with rfl | hp
    · simp [getG]
    · have : ¬ q.1 = p.1 := fun e => h.1 (by rw [e]; exact List.mem_map_of_mem hp)
      have e : getG (q :: r) p.1 = getG r p.1 := by simp [getG, this]
      rw [e, getG_nodup r h.2 p hp]
theorem getG_map {α β : Type} (k : α → Key) (f : α → β) {xs : List α} (hn : (xs.map k).Nodup) {a : α} (ha : a ∈ xs) : getG (xs.map fun a => (k a, f a)) (k a) = some (f a) := by
  refine getG_nodup _ ?_ (k a, f a) (List.mem_map.mpr ⟨a, ha, rfl⟩)
  rw [List.map_map]; exact hn
theorem getG_none {β : Type} {k : Key} : ∀ {kvs : List (Key × β)}, (∀ p ∈ kvs, p.1 ≠ k) → getG kvs k = none
  | [], _ => rfl
  | q :: r, h => by
    have : ¬ q.1 = k := h q (by simp)
    have e : getG (q :: r) k = getG r k := by simp [getG, this]
    rw [e, getG_none fun p hp => h p (by simp [hp])]
theorem kinr_nodup {xs : List Str} (h : xs.Nodup) : (xs.map fun x => (.inr x : Key)).Nodup := by
  unfold List.Nodup at h ⊢
  rw [List.pairwise_map]
  exact h.imp fun h e => h (by cases e; rfl)
theorem kinl_nodup {xs : List Int} (h : xs.Nodup) : (xs.map fun x => (.inl x : Key)).Nodup := by
  unfold List.Nodup at h ⊢
  rw [List.pairwise_map]
  exact h.imp fun h e => h (by cases e; rfl)
/-- a comprehension that draws: each item of its own kind -/
theorem lc_dem3 {α β : Type} {enc : α → D} {g : SG} {el : SE} {env : En} {f : β → D} {P : α → β → Prop} : ∀ (xs : List α) (Q : List D → Prop),
    (∀ a ∈ xs, ∀ (R : D → Prop), (∀ r, P a r → R (f r)) → g (enc a) env fun e1 => el e1 R) → (∀ rs : List β, rs.length = xs.length → (∀ i (h1 : i < xs.length) (h2 : i < rs.length), P xs[i] rs[i]) → Q (rs.map f)) → lcGo g tYes' el env (xs.map enc) Q
  | [], Q, _, h => h [] rfl (fun i h => by cases h)
  | a :: xs, Q, hs, h => by
    have h1 := hs a (by simp) (fun r => lcGo g tYes' el env (xs.map enc) fun rs => Q (r :: rs)) fun r hr => lc_dem3 (P := P) xs _ (fun b hb => hs b (by simp [hb])) fun rs hl hrs => h (r :: rs) (by simp [hl]) fun i g1 g2 => by
      cases i with
      | zero => exact hr
      | succ i => exact hrs i (by simpa using g1) (by simpa using g2)
    exact h1
end Mi

namespace HT
open PySem PySem.Spec PyProof.Rows L2
section
variable {prog : Program} {w : World} {A : Around} {E : Value → Shared → Prop} {s : Shared}
theorem places_back (n : Nat) : Builtin.Slice.slicePlaces ((n : Int) - 1) (-1) (-1) = n := by
  unfold Builtin.Slice.slicePlaces
  simp
  split <;> omega
theorem sliceApplied_back {sl : Addr} {vl vu vs : Value} {n : Nat} {Q : Int × Int × Nat → Shared → Prop} (hs : s.heap.IsSliceOf sl vl vu vs) (pl : IsPart vl none) (pu : IsPart vu none) (ps : IsPart vs (some (-1)))
    (h : Q ((n : Int) - 1, -1, n) s) : wpAny (model prog w) A (Builtin.Slice.sliceApplied (.ref sl) (pure (n : Int))) Q E s := by
  obtain ⟨os, hos, hcs, hds⟩ := id hs
  unfold Builtin.Slice.sliceApplied Builtin.Slice.sliceFields
  refine wpAny_bind (wpAny_bind (wpAny_field hos hds (x := vl) rfl (wpAny_bind (wpAny_field hos hds (x := vu) rfl (wpAny_bind (wpAny_field hos hds (x := vs) rfl (wpAny_pure ?_)))))))
  refine wpAny_bind (slicePart_ ps ?_)
  show wpAny _ _ (if ((-1 : Int) == 0) = true then _ else _) _ _ s
  rw [if_neg (by decide)]
  refine wpAny_bind (slicePart_ pl (wpAny_bind (slicePart_ pu (wpAny_bind (wpAny_pure ?_)))))
  show wpAny _ _ (match Builtin.Slice.sliceAdjust none none (-1) (n : Int) with | (lo, hi) => pure (lo, (-1 : Int), Builtin.Slice.slicePlaces lo hi (-1))) _ _ s
  have e : Builtin.Slice.sliceAdjust none none (-1) (n : Int) = ((n : Int) - 1, -1) := by
    first
    | rfl
    | simp [Builtin.Slice.sliceAdjust]
  rw [e]
  show wpAny _ _ (pure ((n : Int) - 1, (-1 : Int), Builtin.Slice.slicePlaces ((n : Int) - 1) (-1) (-1))) _ _ s
  rw [places_back]
  exact wpAny_pure h
theorem fm_congr {α β : Type} {f g : α → Option β} : ∀ {l : List α}, (∀ x ∈ l, f x = g x) → l.filterMap f = l.filterMap g
  | [], _ => rfl
  | a :: l, h => by rw [List.filterMap_cons, List.filterMap_cons, h a (by simp), fm_congr fun x hx => h x (by simp [hx])]
theorem pick_back (xs : Array Value) : ((List.range xs.size).filterMap fun (m : Nat) => xs[((xs.size : Int) - 1 + (m : Int) * -1).toNat]?).toArray = xs.toList.reverse.toArray := by
  congr 1
  have e : (List.range xs.size).filterMap (fun (m : Nat) => xs[((xs.size : Int) - 1 + (m : Int) * -1).toNat]?) = ((List.range xs.size).map fun k => xs.size - 1 - k).filterMap (xs[·]?) := by
    rw [List.filterMap_map]
    refine fm_congr fun m hm => ?_
    have : ((xs.size : Int) - 1 + (m : Int) * -1).toNat = xs.size - 1 - m := by omega
    simp only [Function.comp_apply, this]
  rw [e, PySem.W.krv_range, List.filterMap_reverse, PySem.W.krv_all]
theorem getItem_tuple_back {t sl : Addr} {items : Array Value} {vl vu vs : Value} {Q : Value → Shared → Prop} (ht : IsTup s.heap t items) (hs : s.heap.IsSliceOf sl vl vu vs) (pl : IsPart vl none) (pu : IsPart vu none) (ps : IsPart vs (some (-1)))
    (h : Q (.ref s.heap.objs.size) { s with heap := s.heap.push { cls := .type "tuple", data := .seq items.toList.reverse.toArray } })
    (hsz : items.size ≤ sizeLine) : wpAny (model prog w) A (getItem (.ref t) (.ref sl)) Q E s := by
  have htake : sizeOk (.seq items.toList.reverse.toArray) := by
    show items.toList.reverse.toArray.size ≤ sizeLine
    rw [List.size_toArray, List.length_reverse, Array.length_toList]
    exact hsz
  obtain ⟨os, hos, hcs, hds⟩ := id hs
  have hTs : s.TypeIs (.ref sl) "slice" := ⟨os, hos, hcs⟩
  unfold getItem
  try with_reducible refine wpAny_holding ?_
  first | refine wpAny_bind (wpAny_pure ?_) | skip
  refine wpAny_bind (wpAny_sequenceKey ht.typeIs (by decide) ?_)
  refine wpAny_bind (wpAny_callSpecial?_slot (name := Str.ofString "__getitem__") ht.typeIs PyProof.Rows.slot_tuple_getitem
    (wpAny_call_entry PyProof.Rows.slot_tuple_getitem ht.typeIs entry_tuple_getitem ?_ (args_tuple_getitem _ _)))
  show wpAny _ _ (Builtin.Tuple.tupleItemsOf (.ref t) >>= _) _ _ s
  refine wpAny_bind (tupleItemsOf_ ht ?_)
  refine wpAny_bind (wpAny_typeOf hTs ?_)
  rw [if_pos (by decide)]
  refine wpAny_bind (sliceApplied_back (n := items.size) hs pl pu ps ?_)
  have hno : ¬ (((((items.size : Int) - 1) == 0 && (-1 : Int) == 1 && items.size == items.size)) = true) := by
    intro q
    rw [Bool.and_eq_true, Bool.and_eq_true] at q
    exact absurd (eq_of_beq q.1.2) (by decide)
  show wpAny _ _ (if ((((items.size : Int) - 1) == 0 && (-1 : Int) == 1 && items.size == items.size)) = true then _ else _) _ _ s
  rw [if_neg hno, pick_back]
  first
    | exact wpAny_bind (m := Builtin.Tuple.tupleExact _) (wpAny_newObj_type (wpAny_pure ⟨_, rfl, wpAny_pure h⟩) htake)
    | exact wpAny_bind (m := Builtin.Tuple.tupleExact _) (wpAny_newObj_type (wpAny_bind (wpAny_pure (wpAny_pure ⟨_, rfl, wpAny_pure h⟩))) htake)
    | exact wpAny_bind (wpAny_bind (m := Builtin.Tuple.tupleExact _) (wpAny_newObj_type (wpAny_pure (wpAny_pure ⟨_, rfl, wpAny_pure h⟩)) htake))
    | exact wpAny_bind (wpAny_bind (m := Builtin.Tuple.tupleExact _) (wpAny_newObj_type (wpAny_pure ⟨_, rfl, wpAny_pure h⟩) htake))
end
end HT
namespace Mi
open PySem PySem.Spec L2 PyProof.Rows
/-! ### xs[::k], k one or minus one -/
theorem pick_fwd (items : Array Value) : slicePick items none none (some 1) = items.toList.toArray := by
  have h : slicePick items none none (some 1) = slicePick items none none none := rfl
  unfold slicePick
  have hb : sliceBounds none none (some 1) items.size = (0, (items.size : Int), 1) := by
    first
    | rfl
    | simp [sliceBounds]
  rw [hb]
  show ((sliceRange 0 (items.size : Int) 1).filterMap (items[·]?)).toArray = _
  have hr : sliceRange 0 (items.size : Int) 1 = List.range items.size := by
    unfold sliceRange
    simp
    congr 1
    split <;> omega
  rw [hr, PySem.W.krv_all]
def rStep (K : Fg) : V → Int → Hp → VK → Prop := fun x c H Q => ∃ a xs, x = .ref a ∧
  ((SqL K H a xs ∧ (c = 1 ∨ c = -1) ∧ ∀ p, H p = none → Q (.ref p) (upd H p (.lst (if c = 1 then xs else xs.reverse)))) ∨
   (SqT K H a xs ∧ c = -1 ∧ NewT xs.reverse H Q))
def tStep (K : Fg) (te ts : TE) : TE := fun σ H Q => te σ H fun x H1 => ts σ H1 fun z H2 => ∃ c, z = .int c ∧ rStep K x c H2 Q
theorem pe_step {X : Cx} {e s : Expr} {te ts : TE} {p3 pos : Pos} (he : PE X e te) (hst : PE X s ts) : PE X (.Subscript e (.Slice none none (some s) p3) pos) (tStep X.G te ts) := by
  refine ⟨fun pins s1 σ H Q I h => ?_⟩
  refine Subscript_ (thn (he.run pins s1 σ H _ I h) fun v s1 ⟨x, H1, I1, r1, q1⟩ => ?_)
  have hso : PO X (some s) (tPart ts) := po_some hst
  refine wpAny_Slice (thn (po_none.run pins s1 σ H1 (fun o H2 => o = none ∧ H2 = H1) I1 ⟨rfl, rfl⟩) fun vl s2 ⟨l, H2, I2, pl, el, e2⟩ => ?_)
  subst el e2
  refine thn (po_none.run pins s2 σ H2 (fun o H3 => o = none ∧ H3 = H2) I2 ⟨rfl, rfl⟩) fun vu s3 ⟨u, H3, I3, pu, eu, e3⟩ => ?_
  subst eu e3
  refine thn (hso.run pins s3 σ H3 (fun o H4 => ∃ c, o = some c ∧ rStep X.G x c H4 Q) I3 ?_) fun vs s4 ⟨o, H4, I4, ps, c, eo, q⟩ => ?_
  · refine (?_ : ts σ H3 _)
    have : (fun z H2 => ∃ c, z = V.int c ∧ rStep X.G x c H2 Q) = fun z H2 => ∃ i, z = V.int i ∧ (fun o H4 => ∃ c, o = some c ∧ rStep X.G x c H4 Q) (some i) H2 := by
      funext z H2
      simp
    rw [this] at q1
    exact q1
  · subst eo
    obtain ⟨a, xs, ex, q⟩ := q
    subst ex
    cases r1
    have I5 : Inv X pins σ H4 { s4 with heap := s4.heap.push { cls := .type "slice", data := .fields #[vl, vu, vs] } } := I4.kept (t' := s4.toks) fun b ob q => Heap.get?_push_of_some _ q
    show wpAny (model X.prog X.w) X.A (subscriptTail e (.Slice none none (some s) p3) (.ref a) (.ref s4.heap.objs.size)) (EP X pins σ Q) X.xe { s4 with heap := s4.heap.push { cls := .type "slice", data := .fields #[vl, vu, vs] } }
    rcases q with ⟨hx, hc, q⟩ | ⟨hx, hc, q⟩
    · obtain ⟨its, r, ht, hz⟩ := I5.list hx
      have hlen := r.length
      refine tail_any (ops := [.ref a, .ref s4.heap.objs.size]) ht.isList.typeIs (PySem.slot_list_getitem.lookup) ?_ (by with_unfolding_all rfl)
      refine wpAny_getItem_list_slice ht.isList (Heap.IsSliceOf.new _ vl vu vs) pl pu ps (by rcases hc with rfl | rfl <;> decide) ?_ (by rw [List.size_toArray]; omega)
      rcases hc with rfl | rfl
      · rw [pick_fwd]
        refine ⟨.ref _, _, I5.laid (t' := s4.toks) (o := .lst xs) (fun b ob q => Heap.get?_push_of_some _ q) (Nat.le_refl _) ?_, rfl, q _ (I5.hok.fresh (Nat.le_refl _))⟩
        exact ⟨hz, _, 0, r, Heap.get?_push_size _ rfl⟩
      · rw [PySem.W.krv_pick]
        refine ⟨.ref _, _, I5.laid (t' := s4.toks) (o := .lst xs.reverse) (fun b ob q => Heap.get?_push_of_some _ q) (Nat.le_refl _) ?_, rfl, q _ (I5.hok.fresh (Nat.le_refl _))⟩
        exact ⟨by rw [List.length_reverse]; exact hz, _, 0, r.reverse, Heap.get?_push_size _ rfl⟩
    · subst hc
      obtain ⟨its, r, ht, hz⟩ := I5.tuple hx
      have hlen := r.length
      refine tail_any (ops := [.ref a, .ref s4.heap.objs.size]) ht.typeIs (PyProof.Rows.slot_tuple_getitem.lookup) ?_ (by with_unfolding_all rfl)
      refine HT.getItem_tuple_back ht (Heap.IsSliceOf.new _ vl vu vs) pl pu ps ?_ (by rw [List.size_toArray]; omega)
      have z := laidT0 I5 r.reverse (by rw [List.length_reverse]; exact hz) q
      simpa [nT] using z
theorem Rvs.reverse {K : Fg} {F : Hp} {xs : List D} {vs : List V} (r : Rvs K F xs vs) : Rvs K F xs.reverse vs.reverse := by
  induction xs generalizing vs with
  | nil => cases r; exact .nil
  | cons x xs ih =>
    cases r with
    | cons a b =>
      rw [List.reverse_cons, List.reverse_cons]
      exact (ih b).append (.cons a .nil)
def stepD (x z : D) : Option D := match x, z with
  | .list xs, .int c => if c = 1 then some (.list xs) else if c = -1 then some (.list xs.reverse) else none
  | .tuple xs, .int c => if c = -1 then some (.tuple xs.reverse) else none
  | _, _ => none
@[simp] theorem step_l {xs : List D} : stepD (.list xs) (.int (-1)) = some (.list xs.reverse) := rfl
@[simp] theorem step_l1 {xs : List D} : stepD (.list xs) (.int 1) = some (.list xs) := rfl
@[simp] theorem step_t {xs : List D} : stepD (.tuple xs) (.int (-1)) = some (.tuple xs.reverse) := rfl
def sStep (m ms : SE) : SE := fun env Q => m env fun x => ms env fun z => ob (stepD x z) Q
@[simp] theorem u_sStep {m ms : SE} {env : En} {Q : D → Prop} : sStep m ms env Q = (m env fun x => ms env fun z => ob (stepD x z) Q) := rfl
theorem me_step {X : Cx} {b : Bool} {a s : Expr} {ma ms : SE} {p3 pos : Pos} (ha : ME X true a ma) (hs : ME X true s ms) : ME X b (.Subscript a (.Slice none none (some s) p3) pos) (sStep ma ms) := by
  refine ⟨⟨fun pins s σ H Q I h => (pe_step ha.run hs.run).run pins s σ H Q I ?_⟩, fun env P Q k h => ha.mono _ _ _ (fun _ h1 => hs.mono _ _ _ (fun _ h2 => ob_mono k h2) h1) h⟩
  obtain ⟨y, dr, F, env, re, hm⟩ := h
  refine ⟨y, dr, F, env, re, ha.mono _ _ _ (fun d h1 v H1 F1 r1 s1 w1 => ?_) hm⟩
  refine ⟨y, dr, F1, env, r1, hs.mono _ _ _ (fun z h2 v2 H2 F2 r2 s2 w2 => ?_) h1⟩
  have w3 := w1.mono s2
  have s13 := s1.trans s2
  unfold stepD at h2
  split at h2
  · rename_i xs c
    obtain ⟨a1, vs, rfl, e1, z1, rv⟩ := w3.list r2
    refine ⟨c, w2.int, a1, vs, rfl, .inl ⟨SqL.of e1, ?_, fun p hp => ?_⟩⟩
    · by_cases c1 : c = 1
      · exact .inl c1
      · by_cases c2 : c = -1
        · exact .inr c2
        · rw [if_neg c1, if_neg c2] at h2; exact h2.elim
    · by_cases c1 : c = 1
      · rw [if_pos c1] at h2 ⊢
        exact h2 _ _ _ (r2.laid hp) (s13.trans (r2.ex hp)) (.inl (Rv.lstNew (r2.nF hp) z1 rv))
      · rw [if_neg c1] at h2 ⊢
        by_cases c2 : c = -1
        · rw [if_pos c2] at h2
          exact h2 _ _ _ (r2.laid hp) (s13.trans (r2.ex hp)) (.inl (Rv.lstNew (r2.nF hp) (by rw [List.length_reverse]; exact z1) rv.reverse))
        · rw [if_neg c2] at h2; exact h2.elim
  · rename_i xs c
    obtain ⟨a1, vs, rfl, e1, z1, rv⟩ := w3.tuple r2
    by_cases c2 : c = -1
    · rw [if_pos c2] at h2
      refine ⟨c, w2.int, a1, vs, rfl, .inr ⟨re_tuple r2 e1, c2, fun p o to hp => ?_⟩⟩
      exact h2 _ _ _ (r2.laid hp) (s13.trans (r2.ex hp)) (.inl (Rv.tupNew (r2.nF hp) to (by rw [List.length_reverse]; exact z1) rv.reverse))
    · rw [if_neg c2] at h2; exact h2.elim
  · exact h2.elim
end Mi

namespace Mi
open PySem PySem.Spec L2 PyProof.Rows
/-! ### list(range(a, b, c)) -/
def PRg3 (X : Cx) (e : Expr) (t : L2.St → Hp → (Int → Int → Int → Hp → Prop) → Prop) : Prop :=
  ∀ (pins : List (Addr × Obj)) (s : Shared) (σ : L2.St) (H : Hp) (Q : Int → Int → Int → Hp → Prop), Inv X pins σ H s → t σ H (fun a b c H' => (c ≠ 0 ∧ c.natAbs < 1073741824) ∧ Q a b c H') →
    wpAny (model X.prog X.w) X.A (eval e X.env) (fun x s' => ∃ r a b c t u v H', x = .ref r ∧ IsRange s'.heap r a b c t u v ∧ Inv X pins σ H' s' ∧ Q a b c H') X.xe s
def tRg3 (ta : TA) : L2.St → Hp → (Int → Int → Int → Hp → Prop) → Prop := fun σ H Q => ta σ H fun vs H1 => ∃ i j k, vs = [.int i, .int j, .int k] ∧ Q i j k H1
theorem prg_3 {X : Cx} {a b c : Expr} {ta : TA} {p pos : Pos} (hg : Gl X "range") (hm : X.mg "range" = none) (ha : PA X [a, b, c] ta)
    (hs : starEach [a, b, c] X.env = (false, eval a X.env) :: starEach [b, c] X.env := by rfl) (hpl : (backTo pos (starEach [b, c] X.env)).any (·.1) = false := by rfl) : PRg3 X (.Call (.Name "range" p) [a, b, c] [] pos) (tRg3 ta) := by
  intro pins s σ H Q I h
  refine Call_ (ld_blt I hg hm boot_range (PyProof.Rows.callWith_type1 (thn (ha.run pos pins s σ H _ I h) fun us s1 ⟨vs, H1, I1, r1, q1⟩ => ?_) hs hpl))
  obtain ⟨i, j, k, e, ⟨c0, c1⟩, q⟩ := q1
  subst e
  cases r1 with
  | cons r rr =>
    cases rr with
    | cons r' rr =>
      cases rr with
      | cons r'' rr =>
        cases rr
        obtain ⟨t, rfl⟩ := r
        obtain ⟨t', rfl⟩ := r'
        obtain ⟨t'', rfl⟩ := r''
        refine call_range_3 c0 ?_ (.inl (PyProof.noPylong_small c1))
        exact ⟨_, i, j, k, _, _, _, H1, rfl, IsRange.new _ _ _ _ _ _ _, I1.kept fun b u e => Heap.get?_push_of_some _ e, q⟩
def rgV3 (a c : Int) (n : Nat) : List V := (List.range n).map fun i => V.int (a + (i : Nat) * c)
theorem vals_rg3 {a c : Int} {n : Nat} {acc : Array Value} (h : ItemsOf (fun i v => ∃ t, v = .int (a + i * c) t) acc n) : Vals (rgV3 a c n) acc.toList := by
  have e : acc.toList.length = n := by rw [Array.length_toList]; exact h.1
  unfold rgV3
  rw [← e]
  refine vals_of_get acc.toList _ fun j u hj => ?_
  obtain ⟨t, rfl⟩ := h.2 j u (by rw [← hj, Array.getElem?_toList])
  exact ⟨t, rfl⟩
def tLstRg3 (te : L2.St → Hp → (Int → Int → Int → Hp → Prop) → Prop) : TE := fun σ H Q => te σ H fun a b c H1 => (c ≠ 0 ∧ c.natAbs < 1073741824) ∧ ∃ n, RgC a b c n ∧ n ≤ 16777216 ∧ ∀ q, H1 q = none → Q (.ref q) (upd H1 q (.lst (rgV3 a c n)))
theorem pe_listRg3 {X : Cx} {e : Expr} {te : L2.St → Hp → (Int → Int → Int → Hp → Prop) → Prop} {p pos : Pos} (hc : X.calm = true) (hg : Gl X "list") (hm : X.mg "list" = none) (he : PRg3 X e te) (na : starEach [e] X.env = (false, eval e X.env) :: starEach [] X.env := by rfl) : PE X (.Call (.Name "list" p) [e] [] pos) (tLstRg3 te) := by
  refine ⟨fun pins s σ H Q I h => ?_⟩
  refine Call_ (ld_blt I hg hm boot_list (PyProof.Rows.callWith_type1 (args_cons (thn (he pins s σ H _ I h) fun x s1 ⟨r, a, b, c, t, u, v, H1, ex, hr, I1, n, ok, hn, q⟩ => args_nil ?_) na) na))
  subst ex
  obtain ⟨b1, b2, b3, b4⟩ := ok
  refine call_list_range (n := n) (I1.ok.hd hc) hr b3 b4 hn fun h' tk acc c' hk e' hi => ?_
  refine ⟨.ref s1.heap.objs.size, upd H1 s1.heap.objs.size (.lst (rgV3 a c n)), I1.laid hk (Nat.le_refl _) (show ObjOk X.prog X.w _ _ _ (.lst (rgV3 a c n)) from ⟨?_, acc.toList, c', vals_rg3 hi, ?_⟩), rfl, q _ (I1.hok.fresh (Nat.le_refl _))⟩
  · unfold rgV3; rw [List.length_map, List.length_range, sizeLine_eq]; exact hn
  · rw [Array.toArray_toList]; exact e'
theorem rgV3_eq (a b c : Int) : rgV3 a c (rngN a b c) = (rngC a b c).map V.int := by unfold rgV3 rngC; rw [List.map_map]; rfl
section
variable {X : Cx} {b : Bool} {a c e : Expr} {ma mc me : SE} {pos : Pos}
theorem iR3_mono (ha : ME X true a ma) (hc : ME X true c mc) (he : ME X true e me) (env : En) (P Q : List D → Prop) (k : ∀ d, P d → Q d) (h : iR3 ma mc me env P) : iR3 ma mc me env Q :=
  ha.mono _ _ _ (fun d hd => hc.mono _ _ _ (fun d' hd' => he.mono _ _ _ (fun d'' hd'' => by cases d <;> cases d' <;> cases d'' <;> first | exact ⟨hd''.1, k _ hd''.2⟩ | exact hd'') hd') hd) h
theorem mf_lR3 {p p2 pos2 : Pos} (hcm : X.calm = true) (hg : Gl X "list") (hm : X.mg "list" = none) (hg2 : Gl X "range") (hm2 : X.mg "range" = none) (ha : ME X true a ma) (hc : ME X true c mc) (he : ME X true e me)
    (na : starEach [a, c, e] X.env = (false, eval a X.env) :: starEach [c, e] X.env := by rfl) (nb : starEach [c, e] X.env = (false, eval c X.env) :: starEach [e] X.env := by rfl) (nc : starEach [e] X.env = (false, eval e X.env) :: starEach [] X.env := by rfl)
    (hp : (backTo pos2 (starEach [c, e] X.env)).any (·.1) = false := by rfl)
    (na2 : starEach [.Call (.Name "range" p2) [a, c, e] [] pos2] X.env = (false, eval (.Call (.Name "range" p2) [a, c, e] [] pos2) X.env) :: starEach [] X.env := by rfl) : MF X (.Call (.Name "list" p) [.Call (.Name "range" p2) [a, c, e] [] pos2] [] pos) (iR3 ma mc me) := by
  refine ⟨⟨fun pins s σ H Q I h => (pe_listRg3 hcm hg hm (prg_3 hg2 hm2 (pa_cons ha.run (pa_cons hc.run (pa_cons he.run pa_nil nc) nb) na) na hp) na2).run pins s σ H Q I ?_⟩, fun env P Q k h => iR3_mono ha hc he env P Q k h⟩
  obtain ⟨y, dr, F, env, re, hm⟩ := h
  refine ⟨y, dr, F, env, re, ha.mono _ _ _ (fun d hd v H' F' r1 s1 w => ?_) hm⟩
  refine ⟨y, dr, F', env, r1, hc.mono _ _ _ (fun d' hd' v' H2 F2 r2 s2 w' => ?_) hd⟩
  refine ⟨y, dr, F2, env, r2, he.mono _ _ _ (fun d'' hd'' v'' H3 F3 r3 s3 w'' => ?_) hd'⟩
  split at hd''
  · rename_i lo hi k
    obtain ⟨⟨h1, h2, h3, h4, h5, h6, h7, h8⟩, hq⟩ := hd''
    refine ⟨lo, hi, k, by rw [w.int, w'.int, w''.int], ⟨h5, by omega⟩, rngN lo hi k, rgC_ok h1 h2 h3 h4 h5 h6 h7 h8, h8, fun q hqq => ?_⟩
    rw [rgV3_eq]
    exact new_lst r3 ((s1.trans s2).trans s3) hqq (Rvs.ofInts _) (by rw [sizeLine_eq]; have := rngC_len lo hi k; unfold dInts at this; omega) hq
  · exact hd''.elim
end
@[simp] theorem iR3_eq {m m' m'' : SE} {env : En} {P : List D → Prop} : iR3 m m' m'' env P = (m env fun d => m' env fun d' => m'' env fun d'' => match d, d', d'' with
  | .int lo, .int hi, .int c => (-1000000000000 ≤ lo ∧ lo ≤ 1000000000000 ∧ -1000000000000 ≤ hi ∧ hi ≤ 1000000000000 ∧ c ≠ 0 ∧ -1000000000 ≤ c ∧ c ≤ 1000000000 ∧ rngN lo hi c ≤ 16777216) ∧ P (dInts (rngC lo hi c))
  | _, _, _ => False) := rfl
/-- a range by steps is what of the range by ones is left by the rest -/
theorem rngC_eq {lo hi c : Int} (hc : 0 < c) : rngC lo hi c = (rng lo hi).filter fun x => (x - lo) % c == 0 := by
  have hs : ∀ (xs ys : List Int), xs.Pairwise (· < ·) → ys.Pairwise (· < ·) → (∀ a, a ∈ xs ↔ a ∈ ys) → xs = ys := fun _ _ => lt_uniq
  refine hs _ _ ?_ ?_ fun a => ?_
  · unfold rngC
    rw [List.pairwise_map]
    refine List.pairwise_lt_range.imp fun {i j} h => ?_
    have := Int.mul_lt_mul_of_pos_right (show (i : Int) < (j : Int) by omega) hc
    omega
  · refine List.Pairwise.filter _ ?_
    unfold rng
    rw [List.pairwise_map]
    exact List.pairwise_lt_range.imp fun h => by omega
  · rw [List.mem_filter, rng_mem]
    unfold rngC rngN
    rw [if_pos hc, List.mem_map]
    constructor
    · rintro ⟨i, hi2, rfl⟩
      rw [List.mem_range] at hi2
      split at hi2
      · have h1 : (i : Int) ≤ (hi - lo - 1) / c := by
          have : 0 ≤ (hi - lo - 1) / c := Int.ediv_nonneg (by omega) (by omega)
          omega
        have h2 := (Int.le_ediv_iff_mul_le hc).mp h1
        have h3 := Int.mul_nonneg (show 0 ≤ (i : Int) by omega) (show 0 ≤ c by omega)
        refine ⟨by omega, ?_⟩
        have : lo + (i : Int) * c - lo = i * c := by omega
        rw [this, Int.mul_emod_left]; rfl
      · exact absurd hi2 (by omega)
    · rintro ⟨⟨h1, h2⟩, h3⟩
      have h3 : (a - lo) % c = 0 := by simpa using h3
      have h4 := Int.mul_ediv_add_emod (a - lo) c
      have h5 : 0 ≤ (a - lo) / c := Int.ediv_nonneg (by omega) (by omega)
      have h6 : (a - lo) / c * c = c * ((a - lo) / c) := Int.mul_comm _ _
      refine ⟨((a - lo) / c).toNat, ?_, by rw [show ((((a - lo) / c).toNat : Nat) : Int) = (a - lo) / c by omega]; omega⟩
      rw [List.mem_range, if_pos (by omega)]
      have : (a - lo) / c ≤ (hi - lo - 1) / c := Int.ediv_le_ediv hc (by omega)
      omega
end Mi

namespace Mi
open PySem PySem.Spec L2
/-! ### reading xs.extend(ys); ints in tuples -/
def extK (xs : List D) (d : D) (P : List D → Prop) : Prop := match d with
  | .list ys => xs.length + ys.length ≤ 16777216 ∧ P (xs ++ ys)
  | _ => False
@[simp] theorem extK_l {xs ys : List D} {P : List D → Prop} : extK xs (.list ys) P = (xs.length + ys.length ≤ 16777216 ∧ P (xs ++ ys)) := rfl
@[simp] theorem u_sExt {i : Nat} {m : SE} {K : Ks} {env : En} : sExt i m K env = (ownL env i fun xs => m env fun d => extK xs d fun ys => K.nx (env.set i (.l ys))) := rfl
theorem in_tI {a : Int} {xs : List Int} : inD (.int a) (.tuple (dInts xs)) = some (.bool (decide (a ∈ xs))) := cod_int.inDT (n := 1) rfl fun _ _ => rfl
theorem nin_tI {a : Int} {xs : List Int} : ninD (.int a) (.tuple (dInts xs)) = some (.bool (!decide (a ∈ xs))) := cod_int.ninDT (n := 1) rfl fun _ _ => rfl
theorem nin_lI {a : Int} {xs : List Int} : ninD (.int a) (.list (dInts xs)) = some (.bool (!decide (a ∈ xs))) := cod_int.ninDL (n := 1) rfl fun _ _ => rfl
theorem len_split {α : Type} (p : α → Bool) : ∀ ys : List α, ys.length = (ys.filter p).length + (ys.filter fun y => !p y).length
  | [] => rfl
  | y :: ys => by
    have := len_split p ys
    by_cases c : p y = true
    · rw [List.filter_cons_of_pos c, List.filter_cons_of_neg (by simp [c])]; simp; omega
    · rw [List.filter_cons_of_neg c, List.filter_cons_of_pos (by simpa using c)]; simp; omega
theorem rng_so (a b : Int) : (rng a b).Pairwise (· < ·) := by
  unfold rng
  rw [List.pairwise_map]
  exact List.pairwise_lt_range.imp fun h => by omega
theorem rng_app {a b c : Int} (h1 : a ≤ b) (h2 : b ≤ c) : rng a c = rng a b ++ rng b c := by
  refine lt_uniq (rng_so _ _) ?_ fun x => ?_
  · rw [List.pairwise_append]
    exact ⟨rng_so _ _, rng_so _ _, fun x hx y hy => by have := rng_mem.mp hx; have := rng_mem.mp hy; omega⟩
  · rw [List.mem_append, rng_mem, rng_mem, rng_mem]; omega
theorem lt_len : ∀ {xs : List Int} {lo hi : Int}, xs.Pairwise (· < ·) → (∀ x ∈ xs, lo ≤ x ∧ x ≤ hi) → lo ≤ hi + 1 → (xs.length : Int) ≤ hi - lo + 1
  | [], _, _, _, _, h => by simp; omega
  | a :: xs, lo, hi, hs, hb, _ => by
    rw [List.pairwise_cons] at hs
    have h1 := hb a (by simp)
    have := lt_len (xs := xs) (lo := a + 1) (hi := hi) hs.2 (fun x hx => by have := hs.1 x hx; have := hb x (by simp [hx]); omega) (by omega)
    simp; omega
theorem up_dem {sm : Sm} {args : List Sl} {Q : D → Prop} (h : sm args Q) : up sm args Q := ⟨Q, h, fun _ h => h⟩
/-! ### (a, b) against (a, b), written constants of tuples -/
end Mi

namespace Mi
open PySem PySem.Spec L2
/-! ### written constants: tuples of tuples of ints -/
theorem rv_wI {K : Fg} {b : Addr} {ns : List Int} {its : Array Value} {n : Nat} {sl : Array (Option Value)} (l : K.K.lookup b = some ⟨.type "tuple", none, .seq its n, sl⟩) (v : Vals (ns.map V.int) its.toList) (hl : ns.length ≤ 1000) (F : Hp) : Rv K F (.tuple (dInts ns)) (.ref b) := by
  have hv := v.length
  rw [List.length_map] at hv
  have hz : its.size ≤ sizeLine := by
    rw [sizeLine_eq, ← Array.length_toList, ← hv]
    omega
  exact .tup (.inr ⟨_, its, n, l, ⟨rfl, rfl⟩, rfl, hz, v⟩) (by rw [dInts_len, sizeLine_eq]; omega) (Rvs.ofInts ns)
theorem con_tupV {K : Fg} {mg : Str → Option Value} {h : Heap} {x : Str} {a : Addr} {ds : List D} {vs : List V} {its : Array Value} {n : Nat} {sl : Array (Option Value)} (X : K.K.In h) (G : h.Ns mainGlobals mg)
    (e : PySem.W.nsIn K mainGlobals x = some (some (.ref a))) (l : K.K.lookup a = some ⟨.type "tuple", none, .seq its n, sl⟩) (v : Vals vs its.toList) (hl : ds.length ≤ 1000) (rv : ∀ F, Rvs K F ds vs) : Con K mg x (.tuple ds) := by
  have hv := v.length
  have hl2 := (rv fun _ => none).length
  have hz : its.size ≤ sizeLine := by
    rw [sizeLine_eq, ← Array.length_toList, ← hv]
    omega
  exact ⟨.ref a, .ref a, PySem.W.mg_of X G e, rfl, fun F => .tup (.inr ⟨_, its, n, l, ⟨rfl, rfl⟩, rfl, hz, v⟩) (by rw [sizeLine_eq]; omega) (rv F)⟩
end Mi

namespace L2
open PySem PySem.Spec PyProof.Rows
section
variable {X : Cx}
/-- sorted(d) of a dict whose keys are ints, however many -/
theorem call_sortedDIA (hcalm : X.calm = true) : CallR X (.builtin "sorted") (fun xs H Q => ∃ (a : Addr) (kvs : List (Key × V)) (ks : List Int), xs = [.ref a] ∧ Rd H a (.dK kvs) ∧ kvs.map (·.1) = ks.map Sum.inl ∧
    ∀ (ys : List Int) (p : Addr), ys.Perm ks → ys.Pairwise (· ≤ ·) → H p = none → Q (.ref p) (upd H p (.lst (ys.map V.int)))) := by
  intro pins s σ H xs us Q I r q
  obtain ⟨a, kvs, ks, ex, hd, hks, q⟩ := q
  subst ex
  obtain ⟨u, eu, rx⟩ := vals1 r
  subst eu
  cases rx
  obtain ⟨z, lo, vs, rel, dd⟩ := dk_rd I.hok hd
  obtain ⟨ep, hat⟩ := dd.dictAt
  have hkeys : vs.map (·.1) = ks.map Sum.inl := rel.keys.symm.trans hks
  have hl : vs.length = ks.length := by
    have e := congrArg List.length hkeys
    rw [List.length_map, List.length_map] at e
    exact e
  have h16 : vs.length ≤ sizeLine := by rw [← rel.length]; exact z
  refine Calls.call_function_entry PyProof.Rows.kind_sorted PyProof.Rows.plain_sorted PyProof.Rows.entry_sorted (PyProof.Rows.args_sorted1 _) ?_
  unfold Builtin.«sorted»
  refine wpAny_bind (m := checkCount "sorted" 1 1 _) (wpAny_pure ?_)
  refine wpAny_bind (PySem.W.kdu_collect (A := X.A.in1) (PySem.W.kdl_dict (knd := mixKind X.prog X.w) (kvs := vs) (ep := ep) lo) (I.ok.hd hcalm) hat h16 fun h' tk acc hk hacc => ?_)
  have hal : acc.toList.length = ks.length := by rw [Array.length_toList, hacc.1, hl]
  have hS : IntsAre acc.toList ks := ints_each hal fun j v e => by
    obtain ⟨k, x, e1, e2⟩ := hacc.2 j v (by rw [← Array.getElem?_toList]; exact e)
    have e3 : (vs.map (·.1))[j]? = some k := by rw [List.getElem?_map, e1]; rfl
    rw [hkeys, List.getElem?_map] at e3
    cases e4 : ks[j]? with
    | none => rw [e4] at e3; cases e3
    | some y =>
      rw [e4] at e3
      have e5 : Sum.inl y = k := Option.some.inj e3
      subst e5
      rcases keyIs_shape (show keyIs (Sum.inl y) v = true from e2) with ⟨i, t, ek, ev⟩ | ⟨z, t, ek, ev⟩
      · cases ek
        exact ⟨y, t, rfl, ev⟩
      · cases ek
  have I1 : Inv X pins σ H { s with heap := h', toks := tk } := I.kept hk
  have hzl : acc.toList.length ≤ sizeLine := by rw [hal, ← hl]; exact h16
  refine wpAny_bind (wpAny_newList ?_ (by exact hzl))
  have hoL : (h'.push (seqObj "list" acc.toList.toArray 0)).get? h'.objs.size = some (seqObj "list" acc.toList.toArray 0) := Heap.get?_push_size _ rfl
  show wpAny _ _ _ _ _ { s with heap := h'.push (seqObj "list" acc.toList.toArray 0), toks := tk }
  refine wpAny_bind (wpAny_holding (wpAny_call_entry PyProof.Rows.slot_list_sort ⟨_, hoL, rfl⟩ PyProof.Rows.entry_list_sort
    (PyProof.Rows.list_sort_treeAny (s := { s with heap := h'.push (seqObj "list" acc.toList.toArray 0), toks := tk }) hoL hS hzl fun out ys g1 g2 g3 => ⟨_, rfl, ?_⟩) (PyProof.Rows.args_list_sort _)))
  obtain ⟨e', he'⟩ := PyProof.Rows.sortedHeap_at (vs := acc.toList) (out := out) hoL
  have hlen : (ys.map V.int).length ≤ sizeLine := by
    rw [List.length_map, g2.length_eq, ← hl]
    exact h16
  refine wpAny_pure ⟨_, rfl, .ref h'.objs.size, upd H h'.objs.size (.lst (ys.map V.int)), I1.laid (t' := tk) (fun b u e => ?_) (Nat.le_refl _)
    (show ObjOk X.prog X.w _ _ _ (.lst (ys.map V.int)) from ⟨hlen, out.toList, e', vals_of_ints g1, by rw [Array.toArray_toList]; exact he'⟩), rfl, q ys _ g2 g3 (I1.hok.fresh (Nat.le_refl _))⟩
  have hb : b < h'.objs.size := Heap.lt_size e
  rw [PyProof.Rows.sortedHeap_old (Nat.ne_of_lt hb) (by rw [size_push']; exact Nat.lt_succ_of_lt hb)]
  exact Heap.get?_push_of_some _ e
/-- sorted(d) of a dict whose keys are texts, however many -/
theorem call_sortedDSA (hcalm : X.calm = true) : CallR X (.builtin "sorted") (fun xs H Q => ∃ (a : Addr) (kvs : List (Key × V)) (ks : List Str), xs = [.ref a] ∧ Rd H a (.dK kvs) ∧ kvs.map (·.1) = ks.map Sum.inr ∧
    ∀ ys p, ys.Perm ks → sortedS ys = true → H p = none → Q (.ref p) (upd H p (.lst (ys.map V.str)))) := by
  intro pins s σ H xs us Q I r q
  obtain ⟨a, kvs, ks, ex, hd, hks, q⟩ := q
  subst ex
  obtain ⟨u, eu, rx⟩ := vals1 r
  subst eu
  cases rx
  obtain ⟨z, lo, vs, rel, dd⟩ := dk_rd I.hok hd
  obtain ⟨ep, hat⟩ := dd.dictAt
  have hkeys : vs.map (·.1) = ks.map Sum.inr := rel.keys.symm.trans hks
  have hl : vs.length = ks.length := by
    have e := congrArg List.length hkeys
    rw [List.length_map, List.length_map] at e
    exact e
  have h16 : vs.length ≤ sizeLine := by rw [← rel.length]; exact z
  refine Calls.call_function_entry PyProof.Rows.kind_sorted PyProof.Rows.plain_sorted PyProof.Rows.entry_sorted (PyProof.Rows.args_sorted1 _) ?_
  unfold Builtin.«sorted»
  refine wpAny_bind (m := checkCount "sorted" 1 1 _) (wpAny_pure ?_)
  refine wpAny_bind (PySem.W.kdu_collect (A := X.A.in1) (PySem.W.kdl_dict (knd := mixKind X.prog X.w) (kvs := vs) (ep := ep) lo) (I.ok.hd hcalm) hat h16 fun h' tk acc hk hacc => ?_)
  have hal : acc.toList.length = ks.length := by rw [Array.length_toList, hacc.1, hl]
  have hS : StrsAre acc.toList ks := strs_at hal fun j v e => by
    obtain ⟨k, x, e1, e2⟩ := hacc.2 j v (by rw [← Array.getElem?_toList]; exact e)
    have e3 : (vs.map (·.1))[j]? = some k := by rw [List.getElem?_map, e1]; all_goals rfl
    rw [hkeys, List.getElem?_map] at e3
    cases e4 : ks[j]? with
    | none => rw [e4] at e3; cases e3
    | some y =>
      rw [e4] at e3
      have e5 : Sum.inr y = k := Option.some.inj e3
      subst e5
      obtain ⟨t, ev⟩ := Value.isStrOf_shape (x := y) (v := v) e2
      exact ⟨y, t, rfl, ev⟩
  have I1 : Inv X pins σ H { s with heap := h', toks := tk } := I.kept hk
  have hzl : acc.toList.length ≤ sizeLine := by rw [hal, ← hl]; exact h16
  refine wpAny_bind (wpAny_newList ?_ (by exact hzl))
  have hoL : (h'.push (seqObj "list" acc.toList.toArray 0)).get? h'.objs.size = some (seqObj "list" acc.toList.toArray 0) := Heap.get?_push_size _ rfl
  show wpAny _ _ _ _ _ { s with heap := h'.push (seqObj "list" acc.toList.toArray 0), toks := tk }
  refine wpAny_bind (wpAny_holding (wpAny_call_entry PyProof.Rows.slot_list_sort ⟨_, hoL, rfl⟩ PyProof.Rows.entry_list_sort
    (PyProof.Rows.list_sort_treeKAny strKind_oneLt (s := { s with heap := h'.push (seqObj "list" acc.toList.toArray 0), toks := tk }) hoL hS.keysOf (fun v₁ v₂ rest e => keyKind_strs (by rw [← e]; exact hS)) hzl fun st' hp hs => ⟨_, rfl, ?_⟩)
    (PyProof.Rows.args_list_sort _)))
  obtain ⟨ys, g1, g2, g3⟩ := sorted_out_str hS hp hs
  obtain ⟨e', he'⟩ := PyProof.Rows.sortedHeap_at (vs := acc.toList) (out := (arrOf st').map (·.2)) hoL
  have hlen : (ys.map V.str).length ≤ sizeLine := by
    rw [List.length_map, g2.length_eq, ← hl]
    exact h16
  refine wpAny_pure ⟨_, rfl, .ref h'.objs.size, upd H h'.objs.size (.lst (ys.map V.str)), I1.laid (t' := tk) (fun b u e => ?_) (Nat.le_refl _)
    (show ObjOk X.prog X.w _ _ _ (.lst (ys.map V.str)) from ⟨hlen, ((arrOf st').map (·.2)).toList, e', vals_of_strs g1, by rw [Array.toArray_toList]; exact he'⟩), rfl, q ys _ g2 g3 (I1.hok.fresh (Nat.le_refl _))⟩
  have hb : b < h'.objs.size := Heap.lt_size e
  rw [PyProof.Rows.sortedHeap_old (Nat.ne_of_lt hb) (by rw [size_push']; exact Nat.lt_succ_of_lt hb)]
  exact Heap.get?_push_of_some _ e
end
end L2
namespace Mi
open PySem PySem.Spec L2
/-! ### sorted(d): ints or texts -/
def keysS : List (Key × D) → Option (List Str)
  | [] => some []
  | (.inr x, _) :: r => (keysS r).map (x :: ·)
  | _ => none
theorem keysS_eq : ∀ {kvs : List (Key × D)} {ks : List Str}, keysS kvs = some ks → kvs.map (·.1) = ks.map Sum.inr
  | [], ks, h => by cases h; rfl
  | (.inr x, d) :: r, ks, h => by
    have h : (keysS r).map (x :: ·) = some ks := h
    cases q : keysS r with
    | none => rw [q] at h; cases h
    | some l =>
      rw [q] at h; cases h
      rw [List.map_cons, keysS_eq q]; rfl
  | (.inl _, _) :: _, _, h => by cases h
theorem keysS_map {α : Type} (k : α → Str) (f : α → D) : ∀ xs : List α, keysS (xs.map fun a => (.inr (k a), f a)) = some (xs.map k)
  | [] => rfl
  | x :: xs => by
    show (keysS (xs.map _)).map (k x :: ·) = _
    rw [keysS_map k f xs]; rfl
def leS (a b : Str) : Bool := !decide (b.cps.toList < a.cps.toList)
def ssort (ks : List Str) : List Str := ks.mergeSort leS
theorem cps_inj {a b : Str} (h : a.cps.toList = b.cps.toList) : a = b := by
  obtain ⟨x⟩ := a
  obtain ⟨y⟩ := b
  congr 1
  exact Array.toList_inj.mp h
theorem leS_trans {a b c : Str} (h1 : leS a b = true) (h2 : leS b c = true) : leS a c = true := by
  unfold leS at *
  simp at *
  exact List.le_trans h1 h2
theorem leS_total (a b : Str) : (leS a b || leS b a) = true := by
  unfold leS
  simp
  exact List.le_total _ _
theorem leS_anti {a b : Str} (h1 : leS a b = true) (h2 : leS b a = true) : a = b := by
  unfold leS at *
  simp at *
  exact cps_inj (List.le_antisymm h1 h2)
theorem ssort_perm (ks : List Str) : (ssort ks).Perm ks := List.mergeSort_perm _ _
theorem ssort_so (ks : List Str) : (ssort ks).Pairwise fun a b => leS a b = true := List.pairwise_mergeSort (le := leS) (fun a b c => leS_trans) leS_total ks
theorem ssort_uniq {ys ks : List Str} (hp : ys.Perm ks) (hs : ys.Pairwise fun a b => leS a b = true) : ys = ssort ks :=
  List.Perm.eq_of_pairwise (fun a b _ _ h1 h2 => leS_anti h1 h2) hs (ssort_so ks) (hp.trans (ssort_perm ks).symm)
theorem rising_so : ∀ (r : List Str) (p : Str), PyProof.Rows.risingS p r = true → (p :: r).Pairwise fun a b => leS a b = true
  | [], p, _ => List.pairwise_singleton _ _
  | x :: r, p, h => by
    have h : (!ltCps x.cps.toList p.cps.toList && PyProof.Rows.risingS x r) = true := h
    rw [Bool.and_eq_true] at h
    have h1 : leS p x = true := by
      unfold leS
      rw [PyProof.Rows.le_meets]; exact h.1
    have ih := rising_so r x h.2
    rw [List.pairwise_cons]
    refine ⟨fun y hy => ?_, ih⟩
    rcases List.mem_cons.mp hy with rfl | hy
    · exact h1
    · exact leS_trans h1 ((List.pairwise_cons.mp ih).1 y hy)
theorem sorted_so {ys : List Str} (h : PyProof.Rows.sortedS ys = true) : ys.Pairwise fun a b => leS a b = true := by
  cases ys with
  | nil => exact .nil
  | cons x r => exact rising_so r x h
def dStrs (xs : List Str) : List D := xs.map PyData.str
def srtKeysK (kvs : List (Key × D)) (Q : List D → Prop) : Prop := (∃ ks, keysI kvs = some ks ∧ Q (dInts (isort ks))) ∨ (∃ ks, keysS kvs = some ks ∧ (∀ k ∈ ks, k.length ≤ sizeLine) ∧ Q (dStrs (ssort ks)))
def sSrtKeysA (m : SE) : SL := fun env Q => m env fun x => obK (asK x) fun kvs => kvs.length ≤ 16777216 ∧ srtKeysK kvs Q
@[simp] theorem u_sSrtKeysA {m : SE} {env : En} {Q : List D → Prop} : sSrtKeysA m env Q = (m env fun x => obK (asK x) fun kvs => kvs.length ≤ 16777216 ∧ srtKeysK kvs Q) := rfl
theorem srtKeys_i {kvs : List (Key × D)} {ks : List Int} {Q : List D → Prop} (h : keysI kvs = some ks) (q : Q (dInts (isort ks))) : srtKeysK kvs Q := .inl ⟨ks, h, q⟩
theorem srtKeys_s {kvs : List (Key × D)} {ks : List Str} {Q : List D → Prop} (h : keysS kvs = some ks) (hz : ∀ k ∈ ks, k.length ≤ 16777216) (q : Q (dStrs (ssort ks))) : srtKeysK kvs Q := .inr ⟨ks, h, fun k hk => by rw [sizeLine_eq]; exact hz k hk, q⟩
theorem rvs_strs {K : Fg} {F : Hp} : ∀ {ss : List Str}, (∀ s ∈ ss, s.length ≤ sizeLine) → Rvs K F (dStrs ss) (ss.map V.str)
  | [], _ => .nil
  | s :: ss, h => .cons (.str s (h s (by simp))) (rvs_strs fun x hx => h x (by simp [hx]))
section
variable {X : Cx} {b : Bool} {a : Expr} {ma : SE} {pos : Pos}
theorem mf_srtKeysA {p : Pos} (hc : X.calm = true) (hg : Gl X "sorted") (hm : X.mg "sorted" = none) (ha : ME X true a ma) (he : starEach [a] X.env = (false, eval a X.env) :: starEach [] X.env := by rfl) (hpl : (backTo pos (starEach [] X.env)).any (·.1) = false := by rfl) :
    MF X (.Call (.Name "sorted" p) [a] [] pos) (sSrtKeysA ma) := by
  refine ⟨⟨fun pins s σ H Q I hq => (pe_callB ((call_sortedDIA hc).or (call_sortedDSA hc)) hg hm (by decide +kernel) (pa_cons ha.run pa_nil he) (by decide) (by decide) he hpl).run pins s σ H Q I ?_⟩, fun env P Q k hp => ha.mono _ _ _ (fun d h1 => obK_mono (fun kvs h => ⟨h.1, ?_⟩) h1) hp⟩
  · obtain ⟨y, dr, F, env, re, hm⟩ := hq
    refine ⟨y, dr, F, env, re, ha.mono _ _ _ (fun d1 h1 v1 H1 F1 r1 s1 w1 => ?_) hm⟩
    cases q : asK d1 with
    | none => rw [q] at h1; exact h1.elim
    | some kvs =>
      rw [q] at h1
      obtain ⟨hl, h1⟩ := (show kvs.length ≤ 16777216 ∧ srtKeysK kvs _ from h1)
      obtain ⟨p', kws, rfl, e1, e2⟩ := w1.asK r1 q
      rcases h1 with ⟨ks, q2, h1⟩ | ⟨ks, q2, hz0, h1⟩
      · refine .inl ⟨p', kws, ks, rfl, e1, (rks_keys e2).trans (keysI_eq q2), fun ys p2 o1 o2 hp2 => ?_⟩
        have e : ys = isort ks := List.Perm.eq_of_pairwise (fun a b _ _ h1 h2 => Int.le_antisymm h1 h2) o2 (isort_sorted ks) (o1.trans (isort_perm ks).symm)
        subst e
        have hz : (dInts (isort ks)).length ≤ sizeLine := by rw [dInts_len, isort_len, sizeLine_eq, ← keysI_len q2]; exact hl
        exact new_lst r1 s1 hp2 (Rvs.ofInts _) hz h1
      · refine .inr ⟨p', kws, ks, rfl, e1, (rks_keys e2).trans (keysS_eq q2), fun ys p2 o1 o2 hp2 => ?_⟩
        have e : ys = ssort ks := ssort_uniq o1 (sorted_so o2)
        subst e
        have hkl : ks.length = kvs.length := by
          have := congrArg List.length (keysS_eq q2)
          rw [List.length_map, List.length_map] at this
          exact this.symm
        have hz : (dStrs (ssort ks)).length ≤ sizeLine := by
          unfold dStrs
          rw [List.length_map, (ssort_perm ks).length_eq, sizeLine_eq, hkl]; exact hl
        exact new_lst r1 s1 hp2 (rvs_strs fun s hs => hz0 s ((ssort_perm ks).mem_iff.mp hs)) hz h1
  · rcases h.2 with ⟨ks, q2, h1⟩ | ⟨ks, q2, hz0, h1⟩
    · exact .inl ⟨ks, q2, k _ h1⟩
    · exact .inr ⟨ks, q2, hz0, k _ h1⟩
end
/-! ### pairs of ints in order -/
theorem lt_2 (a b a' b' : Int) : PySem.W.dataLt (.tuple [.int a, .int b]) (.tuple [.int a', .int b']) = decide (a < a' ∨ (a = a' ∧ b < b')) := by
  have al : ∀ x y : Int, PySem.W.alike (.int x) (.int y) = true := fun x y => by simp [PySem.W.alike]
  have ev : ∀ x y : Int, PyData.eqv (.int x) (.int y) = decide (x = y) := fun x y => by
    show (x == y) = _
    by_cases c : x = y <;> simp [c]
  rw [PySem.W.dataLt_tuple, PySem.W.dataLt_cons (al a a'), PySem.W.dataLt_cons (al b b'), ev, ev, PySem.W.dataLt_int, PySem.W.dataLt_int]
  have e : PyProof.Rows.lexLt PyProof.Rows.itemOrd (PySem.W.keyToksAll []) (PySem.W.keyToksAll []) = false := PyProof.Rows.lex_irrefl _
  rw [e]
  by_cases h1 : a = a'
  · subst h1
    by_cases h2 : b = b'
    · subst h2; simp
    · simp [h2]
  · simp [h1]
theorem side_2 (a b a' b' : Int) : W.alike (.tuple [.int a, .int b]) (.tuple [.int a', .int b']) = true ∧ SeqAt.shaped (.tuple [.int a, .int b]) = true ∧ SeqAt.shaped (.tuple [.int a', .int b']) = true :=
  ⟨by simp [PySem.W.alike, PySem.W.alikeAll], flat_shaped (n := 2) rfl, flat_shaped (n := 2) rfl⟩
theorem le_t2 {a b a' b' : Int} : leD (.tuple [.int a, .int b]) (.tuple [.int a', .int b']) = some (.bool (decide (a < a' ∨ (a = a' ∧ b ≤ b')))) := by
  have h : leD (.tuple [.int a, .int b]) (.tuple [.int a', .int b']) = some (.bool (!PySem.W.dataLt (.tuple [.int a', .int b']) (.tuple [.int a, .int b]))) := by unfold leD; exact if_pos (side_2 a b a' b')
  rw [h, lt_2]
  congr 2
  rw [← decide_not]
  congr 1
  apply propext
  omega
theorem ge_t2 {a b a' b' : Int} : geD (.tuple [.int a, .int b]) (.tuple [.int a', .int b']) = some (.bool (decide (a' < a ∨ (a' = a ∧ b' ≤ b)))) := by
  have h : geD (.tuple [.int a, .int b]) (.tuple [.int a', .int b']) = some (.bool (!PySem.W.dataLt (.tuple [.int a, .int b]) (.tuple [.int a', .int b']))) := by unfold geD; exact if_pos (side_2 a b a' b')
  rw [h, lt_2]
  congr 2
  rw [← decide_not]
  congr 1
  apply propext
  omega
theorem lt_t2 {a b a' b' : Int} : ltD (.tuple [.int a, .int b]) (.tuple [.int a', .int b']) = some (.bool (decide (a < a' ∨ (a = a' ∧ b < b')))) := by
  have h : ltD (.tuple [.int a, .int b]) (.tuple [.int a', .int b']) = some (.bool (PySem.W.dataLt (.tuple [.int a, .int b]) (.tuple [.int a', .int b']))) := by unfold ltD; exact if_pos (side_2 a b a' b')
  rw [h, lt_2]
end Mi

namespace PySem.W
open PySem PySem.Calls PyProof.Rows
section
variable {prog : Program} {w : World} {A : Around} {E : Value → Shared → Prop} {s : Shared}
theorem call_min_twoH {a b : Value} {Q : Value → Shared → Prop}
    (h : wpAny (model prog w) A.in1 (pyIter (.ref s.heap.objs.size)) (fun it s₂ => ∃ I fp wr G n P St H bt, it = .ref I ∧ WalksS prog w A.in1 I fp wr G n P St ∧ St 0 s₂ ∧ (∀ b ∈ fp, b < s₂.heap.objs.size) ∧ 0 < n ∧
      (∀ b o, H.get? b = some o → b ∉ wr) ∧ (∀ b o, H.get? b = some o → s₂.heap.get? b = some o) ∧ CmpIn prog w A.in1 .Lt H P bt ∧ ∀ v s', P (argBest bt (n - 1)) v → Moved wr G s₂ s' → Q v s') E
      { s with heap := s.heap.push { cls := .type "tuple", data := .seq #[a, b] } }) :
    wpAny (model prog w) A (call (.builtin "min") [a, b]) Q E s := by
  have hname : (toString "min" ++ toString ".loop" : String) = "min.loop" := by decide
  refine call_function_tree F.kind_min F.plain_min F.entry_min (F.args_min2 _ _) ?_
  show wpAny _ A.in1 (Builtin.Builtins.bindParams "min" ["key", "default"] 0 ⟨[], []⟩ >>= _) _ _ s
  refine wpAny_bind (wpAny_of_eq (show Builtin.Builtins.bindParams "min" ["key", "default"] 0 ⟨[], []⟩ = pure [none, none] from rfl) ?_)
  show wpAny _ A.in1 (newTuple [a, b] >>= _) _ _ s
  refine wpAny_bind (wpAny_newObj_type ?_)
  refine wpAny_bind (wpAny_mono h (fun it s₂ h₂ => ?_) fun _ _ e => e)
  obtain ⟨I, fp, wr, G, n, P, St, H, bt, rfl, W, hst, hfp, hn, hw, hkeep, hcmp, hQ⟩ := h₂
  refine wpAny_bind (wpAny_newObj_type ?_)
  have hSf : s₂.heap.objs.size ∉ fp := fun hm => Nat.lt_irrefl _ (hfp _ hm)
  rw [hname]
  refine wpAny_pure ⟨plainId_quiet F.plain_min_loop _, codeAny_min_loop_firstH W H hw bt hcmp s₂.heap.objs.size hSf (fresh_in hkeep) _ hn (fun b o e => Heap.get?_push_of_some _ (hkeep b o e)) (W.frame 0 s₂ _ s₂.toks hst (Nat.le_refl _) fun b _ o e => Heap.get?_push_of_some _ e) (Heap.get?_push_size _ rfl) fun v s' hP hm => ?_⟩
  exact hQ v s' hP (Moved.drop_new (tk := s₂.toks) hm (Nat.le_refl _))
end
end PySem.W
namespace Mi
open PySem PySem.Spec L2
open PySem.W (iter_tupleW cmpIn_lt moved_old reads_keeps)
/-! ### min(a, b) of two data -/
def rBest2 (X : Cx) : List V → Hp → VK → Prop := fun xs H Q => ∃ (v1 v2 : V) (d1 d2 : D), xs = [v1, v2] ∧ Dp X.G H v1 d1 ∧ Dp X.G H v2 d2 ∧ PySem.W.AlikeAll [d1, d2] ∧ d1.depth ≤ 60 ∧ d2.depth ≤ 60 ∧ Q (if PySem.W.dataLt d2 d1 = true then v2 else v1) H
theorem cr_min2B {X : Cx} (hc : X.calm = true) (hu : X.A.units + 65 < cLine) : CallR X (.builtin "min") (rBest2 X) := by
  intro pins s σ H xs us Q I r h
  obtain ⟨v1, v2, d1, d2, rfl, h1, h2, hal, e1, e2, q⟩ := h
  obtain ⟨u1, u2, rfl, r1, r2⟩ := vals2 r
  have hh := I.ok.hd hc
  obtain ⟨as, q1⟩ := Dp.reads I d1 v1 u1 h1 r1
  obtain ⟨bs, q2⟩ := Dp.reads I d2 v2 u2 h2 r2
  let s1 : Shared := { s with heap := s.heap.push { cls := .type "tuple", data := .seq #[u1, u2] } }
  have hk0 : ∀ b o, s.heap.get? b = some o → s1.heap.get? b = some o := fun b o e => Heap.get?_push_of_some _ e
  have hT : s1.heap.IsTuple s.heap.objs.size #[u1, u2] := ⟨_, Heap.get?_push_size _ rfl, rfl, 0, rfl⟩
  have hr : ReadsAll s1.heap (#[u1, u2] : Array Value).toList [d1, d2] (as ++ (bs ++ [])) := .cons (reads_keeps hk0 q1) (.cons (reads_keeps hk0 q2) .nil)
  have hda : PyData.depthAll [d1, d2] ≤ 60 := depthAll_le fun d hd => by
    rcases List.mem_cons.mp hd with rfl | hd
    · exact e1
    · rw [List.mem_singleton.mp hd]; exact e2
  refine PySem.W.call_min_twoH (iter_tupleW (s := s1) (A := X.A.in1) hh hT fun s₂ e W st hfp hw hk => ?_)
  refine ⟨_, _, _, _, _, _, _, s1.heap, _, rfl, W, st, hfp, by show 0 < 2; decide, hw, hk, cmpIn_lt (A := X.A.in1) hr hal (by show X.A.units + 1 + _ < _; omega), fun v s' hP m => ?_⟩
  obtain ⟨h', tk, rfl, hk'⟩ := moved_old e rfl m
  have hkk : ∀ b o, s.heap.get? b = some o → h'.get? b = some o := fun b o e => hk' b o (hk0 b o e)
  have hP2 : v = if PySem.W.dataLt d2 d1 = true then u2 else u1 := by
    cases c : PySem.W.dataLt d2 d1 with
    | true =>
      have hb : argBest (fun i j => PySem.W.dataLt (([d1, d2] : List D).getD i .none) (([d1, d2] : List D).getD j .none)) (2 - 1) = 1 := by
        show (if PySem.W.dataLt d2 d1 = true then 1 else 0) = 1
        rw [c]; rfl
      have hP : (#[u1, u2] : Array Value)[argBest (fun i j => PySem.W.dataLt (([d1, d2] : List D).getD i .none) (([d1, d2] : List D).getD j .none)) (2 - 1)]? = some v := hP
      rw [hb] at hP
      exact (Option.some.inj hP).symm
    | false =>
      have hb : argBest (fun i j => PySem.W.dataLt (([d1, d2] : List D).getD i .none) (([d1, d2] : List D).getD j .none)) (2 - 1) = 0 := by
        show (if PySem.W.dataLt d2 d1 = true then 1 else 0) = 0
        rw [c]; rfl
      have hP : (#[u1, u2] : Array Value)[argBest (fun i j => PySem.W.dataLt (([d1, d2] : List D).getD i .none) (([d1, d2] : List D).getD j .none)) (2 - 1)]? = some v := hP
      rw [hb] at hP
      exact (Option.some.inj hP).symm
  subst hP2
  refine ⟨if PySem.W.dataLt d2 d1 = true then v2 else v1, H, I.kept hkk, ?_, q⟩
  cases PySem.W.dataLt d2 d1 with
  | true => exact r2
  | false => exact r1
structure Best2 (x z : D) : Prop where
  lx : x.canLay0 = true
  lz : z.canLay0 = true
  al : PySem.W.AlikeAll [x, z]
  dx : x.depth ≤ 60
  dz : z.depth ≤ 60
noncomputable def min2B (x z : D) : Option D := cIf (Best2 x z) (some (if PySem.W.dataLt z x = true then z else x)) none
theorem min2B_eq {x z : D} (h : Best2 x z) : min2B x z = some (if PySem.W.dataLt z x = true then z else x) := cIf_pos h
theorem me_min2B {X : Cx} {b' : Bool} {a c : Expr} {ma mc : SE} {pos p : Pos} (hcm : X.calm = true) (hu : X.A.units + 65 < cLine) (hg : Gl X "min") (hm : X.mg "min" = none) (ha : ME X false a ma) (hd : ME X false c mc)
    (he : starEach [a, c] X.env = (false, eval a X.env) :: starEach [c] X.env := by rfl) (he2 : starEach [c] X.env = (false, eval c X.env) :: starEach [] X.env := by rfl) (hpl : (backTo pos (starEach [c] X.env)).any (·.1) = false := by rfl) : ME X b' (.Call (.Name "min" p) [a, c] [] pos) (sOp min2B ma mc) := by
  refine me_B2 (b := false) (cr_min2B hcm hu) ?_ hg hm (by decide +kernel) ha hd (by decide) (by decide) he he2 hpl
  intro y dr F env σ H d1 d2 d v1 v2 Q re w1 w2 e k
  unfold min2B at e
  unfold cIf at e
  split at e
  · rename_i h
    cases e
    refine ⟨v1, v2, d1, d2, rfl, dp_mono re.rf.sub (w1.rv.dp h.lx), dp_mono re.rf.sub (w2.rv.dp h.lz), h.al, h.dx, h.dz, ?_⟩
    cases c : PySem.W.dataLt d2 d1 with
    | true => rw [c] at k; exact k _ H F re Ex.refl w2.rv
    | false => rw [c] at k; exact k _ H F re Ex.refl w1.rv
  · cases e
end Mi

namespace Mi
open PySem PySem.Spec L2
/-! ### short rows, turn by turn -/
theorem forGo_c {g : SG} {b : SS} {K : Ks} {d : D} {ds : List D} {env : En} : forGo g b K (d :: ds) env = g d env (fun e1 => b ⟨fun e => forGo g b K ds e, K.rt, K.nx, fun e => forGo g b K ds e⟩ e1) := rfl
theorem forGo_n {g : SG} {b : SS} {K : Ks} {env : En} : forGo g b K [] env = K.nx env := rfl
/-! places of a value in a row -/
def posL (x : Int) (L : List Int) : List Int := ((enumI 0 L).filter fun p => decide (p.2 = x)).map fun p => p.1
theorem posL_snoc (x y : Int) (L : List Int) : posL x (L ++ [y]) = posL x L ++ if y = x then [(L.length : Int)] else [] := by
  unfold posL
  rw [enumI_app, List.filter_append, List.map_append]
  congr 1
  by_cases c : y = x <;> simp [enumI, c]
theorem posL_nil (x : Int) : posL x [] = [] := rfl
theorem posL_none {x : Int} {L : List Int} (h : ¬ x ∈ L) : posL x L = [] := by
  unfold posL
  rw [List.map_eq_nil_iff, List.filter_eq_nil_iff]
  intro p hp
  simp
  intro e
  apply h
  have : p.2 ∈ (enumI 0 L).map (·.2) := List.mem_map_of_mem hp
  have e2 : ∀ (k : Int) (L : List Int), (enumI k L).map (·.2) = L := by
    intro k L
    induction L generalizing k with
    | nil => rfl
    | cons a L ih => simp [enumI, ih]
  rw [e2, e] at this
  exact this
theorem posL_rng (f : Int → Int) (x : Int) (n : Nat) : posL x ((rng 0 (n : Int)).map f) = (rng 0 (n : Int)).filter fun m => decide (f m = x) := by
  induction n with
  | zero => rfl
  | succ n ih =>
    rw [show ((n + 1 : Nat) : Int) = (n : Int) + 1 by omega, rng_snoc' (by omega), List.map_append, List.filter_append, ← ih, List.map_singleton, posL_snoc]
    congr 1
    have : ((rng 0 (n : Int)).map f).length = n := by unfold rng; simp
    rw [this]
    by_cases c : f n = x <;> simp [c]
/-- where each value stands -/
def posF (x : Int) (L : List Int) : D := .tuple (dInts (posL x L))
theorem DOf.pos {kvs : List (Key × D)} {L : List Int} (h : DOf posF kvs L) {x : Int} : (getG kvs (.inl x)).getD (.tuple []) = .tuple (dInts (posL x L)) := by
  obtain ⟨_, h2⟩ := h
  rw [h2]
  by_cases c : x ∈ L
  · rw [if_pos c]; rfl
  · rw [if_neg c, posL_none c]; rfl
theorem DOf.posPut {kvs : List (Key × D)} {L : List Int} (h : DOf posF kvs L) {x : Int} : DOf posF (putG kvs (.inl x) (.tuple (dInts (posL x L ++ [(L.length : Int)])))) (L ++ [x]) := by
  refine h.put ?_ fun y hy => ?_
  · unfold posF
    rw [posL_snoc, if_pos rfl]
  · unfold posF
    rw [posL_snoc, if_neg (fun e => hy e.symm), List.append_nil]
/-- members only -/
def memF (x : Int) (L : List Int) : D := .bool true
theorem DOf.memPut {kvs : List (Key × D)} {L : List Int} (h : DOf memF kvs L) {x : Int} : DOf memF (putG kvs (.inl x) (.bool true)) (L ++ [x]) := h.put rfl fun _ _ => rfl
theorem DOf.len {f : Int → List Int → D} {kvs : List (Key × D)} {L : List Int} (h : DOf f kvs L) : kvs.length ≤ L.length := by
  obtain ⟨ks, h1, h2, h3, h4⟩ := h.sorted
  rw [h4]; exact usort_len L
theorem DOf.keys {f : Int → List Int → D} {kvs : List (Key × D)} {L : List Int} (h : DOf f kvs L) (hl : L.length ≤ 16777216) {Q : List D → Prop} (q : Q (dInts (usort L))) : kvs.length ≤ 16777216 ∧ srtKeysK kvs Q := by
  obtain ⟨ks, h1, h2, h3, h4⟩ := h.sorted
  have := h.len
  refine ⟨by omega, srtKeys_i h1 ?_⟩
  rw [h3]; exact q
end Mi

namespace Mi
open PySem
/-! ### itertools.combinations: facts of the type -/
namespace Cb
theorem slot_init : Slot "itertools.combinations" "__init__" "object.__init__" := by
  refine Slot.of (owner := "object") (n := "__init__") ?_ (by decide +kernel) (by decide +kernel) (by decide +kernel) (by first | exact .inl (by decide +kernel) | exact .inr (by decide +kernel)) ?_
  · rw [typeLookup_type, builtinLookup_eq_fast]
    kernel_rfl
  · rw [isSubtype_type]
    kernel_rfl
theorem slot_next : Slot "itertools.combinations" "__next__" "itertools.combinations.__next__" := by
  refine Slot.of (owner := "itertools.combinations") (n := "__next__") ?_ (by decide +kernel) (by decide +kernel) (by decide +kernel) (by first | exact .inl (by decide +kernel) | exact .inr (by decide +kernel)) ?_
  · rw [typeLookup_type, builtinLookup_eq_fast]
    kernel_rfl
  · rw [isSubtype_type]
    kernel_rfl
theorem entry_new : entryFor table "itertools.combinations.__new__" = some Builtin.«itertools.combinations.__new__» := entryFor_of_fast (by kernel_rfl)
theorem entry_next : entryFor table "itertools.combinations.__next__" = some Builtin.«itertools.combinations.__next__» := entryFor_of_fast (by kernel_rfl)
theorem tc (a c : Value) : checkTypeCall "itertools.combinations" ⟨[a, c], []⟩ = pure () := by kernel_rfl
theorem nc (a c : Value) : checkBuiltinCall "itertools.combinations.__new__" ⟨[.type "itertools.combinations", a, c], []⟩ = pure () := by kernel_rfl
end Cb
end Mi
namespace Mi
open PySem
open AutoSeq1 (wpAny_loadPart')
namespace Cb
theorem mro : mroOf (.type "itertools.combinations") = pure [.type "itertools.combinations", .type "object"] := by
  rw [mroOf_type]
  kernel_rfl
theorem lookup_new : typeLookup (.type "itertools.combinations") "__new__" = pure (some (.builtin "itertools.combinations.__new__")) := by
  rw [typeLookup_type, builtinLookup_eq_fast]
  kernel_rfl
theorem called : TypeCalled "itertools.combinations" "itertools.combinations.__new__" "object.__init__" := by
  refine ⟨by decide +kernel, by decide +kernel, ⟨_, _, mro⟩, madeBy_type mro lookup_new (by decide +kernel), by decide +kernel, ?_, slot_init⟩
  rw [isSubtype_type]
  kernel_rfl
theorem sub_self : isSubtype (.type "itertools.combinations") (.type "itertools.combinations") = pure true := by
  rw [isSubtype_type]
  kernel_rfl
structure Coll (v : Value) (Pi : List Value → Prop) (H : Heap → Prop) : Prop where
  col : ∀ (prog : Program) (w : World) (A : Around) (E : Value → Shared → Prop) (s : Shared) (Q : List Value → Shared → Prop), A.handled = none → H s.heap →
    (∀ items (h' : Heap) tk, Pi items → (∀ b o, s.heap.get? b = some o → h'.get? b = some o) → Q items { s with heap := h', toks := tk }) → wpAny (model prog w) A (collect v) Q E s
theorem rec_eq (fs : List Value) : Builtin.Itertools.itNewRecord (.type "itertools.combinations") fs = newObj (.type "itertools.combinations") (.fields fs.toArray) := by
  unfold Builtin.Itertools.itNewRecord
  rw [if_pos (by decide +kernel)]
set_option maxHeartbeats 4000000 in
theorem meets_new {v : Value} {Pi : List Value → Prop} {H : Heap → Prop} (C : Coll v Pi H) (r : Nat) (t : Tok) (hr : r ≤ 1000) (hz : ∀ items, Pi items → items.length ≤ sizeLine) :
    Meets (Builtin.«itertools.combinations.__new__» ⟨[.type "itertools.combinations", v, .int r t], []⟩) (fun A R s => A.handled = none ∧ H s.heap ∧ ∀ items (h' : Heap) tk, Pi items → (∀ b o, s.heap.get? b = some o → h'.get? b = some o) →
      R (.ok (.ret (.ref (h'.push { cls := .type "tuple", data := .seq items.toArray }).objs.size))) { s with heap := (h'.push { cls := .type "tuple", data := .seq items.toArray }).push { cls := .type "itertools.combinations", data := .fields ([.ref h'.objs.size, rawInt (if r > items.length then 2 else 0), .none] ++ (List.range r).map fun (i : Nat) => rawInt i).toArray }, toks := tk }) :=
  .of_wp fun prog w A R s h => by
    obtain ⟨hp, g, d, tk, os⟩ := s
    obtain ⟨h0, h1, h⟩ := h
    have hsub := sub_self
    unfold Builtin.«itertools.combinations.__new__»
    wp_walk
    rw [show ("itertools." ++ "combinations" : String) = "itertools.combinations" from rfl]
    rw [hsub]
    have hlt : ¬ ((r : Int) < 0) := by omega
    have hm : Builtin.Itertools.itTooMany (r : Int) = false := by
      unfold Builtin.Itertools.itTooMany
      simp only [decide_eq_false_iff_not]
      omega
    wp_walk
    have hov : (decide ((r : Int) < -2 ^ 63) || decide ((r : Int) ≥ 2 ^ 63)) = false := by
      simp only [Bool.or_eq_false_iff, decide_eq_false_iff_not]
      omega
    rw [hov]
    refine wpAny_pure ?_
    refine wpAny_bind (C.col prog w A.in1 _ _ _ (by simpa using h0) h1 fun items h' tk' hp' hk => ?_)
    show wpAny _ _ (if (r : Int) < 0 then _ else _) _ _ _
    rw [if_neg hlt]
    show wpAny _ _ (if Builtin.Itertools.itTooMany (r : Int) = true then _ else _) _ _ _
    rw [hm, if_neg Bool.false_ne_true]
    refine wpAny_bind (wpAny_newObj_type ?_ (by show items.toArray.size ≤ sizeLine; simpa using hz items hp'))
    refine wpAny_pure ?_
    show wpAny _ _ (Builtin.Itertools.itNewRecord _ _ >>= fun v => ret v) _ _ _
    rw [show (Int.toNat (r : Int)) = r from Int.toNat_natCast r]
    rw [rec_eq]
    refine wpAny_bind (wpAny_newObj_type ?_ ?_)
    · exact wpAny_pure ⟨_, rfl, h items h' tk' hp' hk⟩
    · show _ ≤ sizeLine + 2
      rw [List.size_toArray, List.length_append, List.length_map, List.length_range, sizeLine_eq]
      simp only [List.length_cons, List.length_nil]
      omega
end Cb
end Mi
namespace Mi
open PySem
open AutoSeq1 (wpAny_loadPart')
namespace Cb
def nx (n : Nat) (ks : List Nat) : Option (List Nat) :=
  match (List.range ks.length).reverse.find? fun i => ks.getD i 0 != i + n - ks.length with
  | none => none
  | some i => some (ks.take i ++ (List.range (ks.length - i)).map (ks.getD i 0 + 1 + ·))
def combO (p : Addr) (st : Int) (old : Value) (ks : List Nat) : Obj := { cls := .type "itertools.combinations", data := .fields ([.ref p, rawInt st, old] ++ ks.map fun (i : Nat) => rawInt i).toArray }
def tupO (us : List Value) : Obj := { cls := .type "tuple", data := .seq us.toArray }
def pk (us : List Value) (ks : List Nat) : List Value := ks.map fun i => us.toArray.getD i .none
theorem owner : Manifest.owners.lookup (String.ofList ['s', 'n', 'o', 'i', 't', 'a', 'n', 'i', 'b', 'm', 'o', 'c', '.', 's', 'l', 'o', 'o', 't', 'r', 'e', 't', 'i'].reverse) = some Manifest.sig_itertools_combinations := by kernel_rfl
theorem args_next (a : Value) : argsOk "itertools.combinations.__next__" ⟨[a], []⟩ := by
  unfold argsOk
  rw [signature?_of (id := "itertools.combinations.__next__") (n := ['_', '_', 't', 'x', 'e', 'n', '_', '_']) (o := ['s', 'n', 'o', 'i', 't', 'a', 'n', 'i', 'b', 'm', 'o', 'c', '.', 's', 'l', 'o', 'o', 't', 'r', 'e', 't', 'i']) (by kernel_rfl) owner]
  kernel_rfl
theorem nums (p : Addr) (st : Int) (old : Value) (ks : List Nat) : List.map (fun (x : Value) => match x with
    | .int n _ => n.toNat
    | _ => 0) (List.drop 3 ([Value.ref p, rawInt st, old] ++ List.map (fun (i : Nat) => rawInt i) ks).toArray.toList) = ks := by
  show List.map _ (List.map (fun (i : Nat) => rawInt i) ks) = ks
  rw [List.map_map]
  conv => rhs; rw [← List.map_id ks]
  apply List.map_congr_left
  intro k _
  show (k : Int).toNat = k
  simp
section
variable {prog : Program} {w : World} {A : Around} {E : Value → Shared → Prop} {s : Shared} {it p : Addr} {us : List Value} {ks ks' : List Nat} {old : Value}
/-- the next state: what is handed out stands in the third field -/
def out (h' : Heap) (s : Shared) (it p : Addr) (us : List Value) (ks : List Nat) : Prop := h'.get? it = some (combO p 1 (.ref s.heap.objs.size) ks) ∧ h'.get? s.heap.objs.size = some (tupO (pk us ks)) ∧ ∀ b o, b ≠ it → s.heap.get? b = some o → h'.get? b = some o
theorem upd1 (st : Int) : Obj.mapFields (fun x => x.setIfInBounds 1 (rawInt 1)) (combO p st old ks) = combO p 1 old ks := by
  unfold combO Obj.mapFields
  simp
theorem upd2 (st : Int) (v : Value) : Obj.mapFields (fun x => x.setIfInBounds 2 v) (combO p st old ks) = combO p st v ks := by
  unfold combO Obj.mapFields
  simp
theorem it_ne (h0 : s.heap.get? it = some (combO p 0 old ks)) : it ≠ s.heap.objs.size := fun z => by
  have := Heap.lt_size h0
  rw [z] at this
  exact Nat.lt_irrefl _ this
theorem it_np {st : Int} (h0 : s.heap.get? it = some (combO p st old ks)) (h1 : s.heap.get? p = some (tupO us)) : it ≠ p := fun z => by
  rw [z, h1] at h0
  have e : Value.type "tuple" = Value.type "itertools.combinations" := congrArg Obj.cls (Option.some.inj h0)
  exact absurd e (by decide)
set_option maxHeartbeats 4000000 in
theorem next0 {Q : Value → Shared → Prop} (h0 : s.heap.get? it = some (combO p 0 .none ks)) (h1 : s.heap.get? p = some (tupO us)) (hk : ks.length ≤ 1000)
    (h : ∀ h', out h' s it p us ks → Q (.ref s.heap.objs.size) { s with heap := h' }) : wpAny (model prog w) A (Builtin.«itertools.combinations.__next__» ⟨[.ref it], []⟩) (fun fin s' => ∃ v, fin = .done (.ret v) ∧ Q v s') E s := by
  obtain ⟨hp, g, d, tk, os⟩ := s
  have hne := it_ne h0
  have hnp := it_np h0 h1
  have h0' := h0
  unfold combO at h0
  unfold tupO at h1
  unfold Builtin.«itertools.combinations.__next__»
  wp_walk using wpAny_loadPart' h0
  have e1 := nums p 0 .none ks
  erw [e1]
  rw [if_neg (by show ¬ _ > _; simp only [List.size_toArray, List.length_map, sizeLine_eq]; omega)]
  have g1 := Heap.get?_update_self (Obj.mapFields fun x => x.setIfInBounds 1 (rawInt 1)) h0' rfl
  rw [upd1] at g1
  have g2 := Heap.get?_push_of_some (tupO (pk us ks)) g1
  have hz : ((Shared.heap ⟨hp, g, d, tk, os⟩).update it (Obj.mapFields fun x => x.setIfInBounds 1 (rawInt 1))).objs.size = hp.objs.size := Heap.size_after_update ..
  show wpAny _ _ (newObjAsIs (.type "tuple") (.seq (pk us ks).toArray)) _ _ _
  have g3 := g2
  unfold combO tupO at g3
  wp_walk using wpAny_loadPart' g3
  refine ⟨_, rfl, ?_⟩
  have g4 := Heap.get?_update_self (Obj.mapFields fun x => x.setIfInBounds 2 (.ref hp.objs.size)) g2 rfl
  rw [upd2] at g4
  have hz' : (hp.update it (Obj.mapFields fun x => x.setIfInBounds 1 (rawInt 1))).objs.size = hp.objs.size := hz
  rw [hz']
  refine h _ ⟨g4, ?_, fun b o hb e => ?_⟩
  · refine (Heap.get?_update_other _ _ hne).trans ?_
    have := Heap.get?_push_size (hp.update it (Obj.mapFields fun x => x.setIfInBounds 1 (rawInt 1))) (o := tupO (pk us ks)) rfl
    rw [hz'] at this
    exact this
  · exact (Heap.get?_update_other _ _ (Ne.symm hb)).trans (Heap.get?_push_of_some _ ((Heap.get?_update_other _ _ (Ne.symm hb)).trans e))
theorem it_ne' {st : Int} (h0 : s.heap.get? it = some (combO p st old ks)) : it ≠ s.heap.objs.size := fun z => by
  have := Heap.lt_size h0
  rw [z] at this
  exact Nat.lt_irrefl _ this
theorem setnums (old' : Value) : (Obj.mapFields fun fs => fs.extract 0 3 ++ (ks'.map fun (n : Nat) => rawInt n).toArray) (combO p 1 old ks) = combO p 1 old ks' := by
  unfold combO Obj.mapFields
  simp
set_option maxHeartbeats 4000000 in
theorem next1 {Q : Value → Shared → Prop} (h0 : s.heap.get? it = some (combO p 1 old ks)) (h1 : s.heap.get? p = some (tupO us)) (hk : ks.length ≤ 1000) (hk' : ks'.length ≤ 1000) (hx : nx us.length ks = some ks')
    (h : ∀ h', out h' s it p us ks' → Q (.ref s.heap.objs.size) { s with heap := h' }) : wpAny (model prog w) A (Builtin.«itertools.combinations.__next__» ⟨[.ref it], []⟩) (fun fin s' => ∃ v, fin = .done (.ret v) ∧ Q v s') E s := by
  obtain ⟨hp, g, d, tk, os⟩ := s
  have hne := it_ne' h0
  have hnp := it_np h0 h1
  have h0' := h0
  unfold combO at h0
  unfold tupO at h1
  unfold Builtin.«itertools.combinations.__next__»
  wp_walk using wpAny_loadPart' h0
  have e1 := nums p 1 old ks
  erw [e1]
  split
  · rename_i next heq
    have heq' : nx us.length ks = some next := heq
    rw [hx] at heq'
    cases heq'
    wp_walk using wpAny_loadPart' h0
    have g1 := Heap.get?_update_self (Obj.mapFields fun fs => fs.extract 0 3 ++ (ks'.map fun (n : Nat) => rawInt n).toArray) h0' rfl
    rw [setnums old] at g1
    have g2 := Heap.get?_push_of_some (tupO (pk us ks')) g1
    have hz : (hp.update it (Obj.mapFields fun fs => fs.extract 0 3 ++ (ks'.map fun (n : Nat) => rawInt n).toArray)).objs.size = hp.objs.size := Heap.size_after_update ..
    have hp2 : (combO p 1 old ks').data.pastItsLine = none := by
      show (if ([Value.ref p, rawInt 1, old] ++ ks'.map fun (i : Nat) => rawInt i).toArray.size > sizeLine + 3 then some "record:memory" else none) = none
      rw [if_neg]
      simp only [List.size_toArray, List.length_append, List.length_map, List.length_cons, List.length_nil, sizeLine_eq]
      omega
    rw [setnums old, hp2]
    refine wpAny_pure ?_
    have g0 := g1
    unfold combO at g0
    wp_walk using wpAny_loadPart' g0
    rw [if_neg (by show ¬ _ > _; simp only [List.size_toArray, List.length_map, sizeLine_eq]; omega)]
    show wpAny _ _ (newObjAsIs (.type "tuple") (.seq (pk us ks').toArray)) _ _ _
    have g3 := g2
    unfold combO tupO at g3
    wp_walk using wpAny_loadPart' g3
    refine ⟨_, rfl, ?_⟩
    have g4 := Heap.get?_update_self (Obj.mapFields fun x => x.setIfInBounds 2 (.ref hp.objs.size)) g2 rfl
    rw [upd2] at g4
    rw [hz]
    refine h _ ⟨g4, ?_, fun b o hb e => ?_⟩
    · refine (Heap.get?_update_other _ _ hne).trans ?_
      have := Heap.get?_push_size (hp.update it (Obj.mapFields fun fs => fs.extract 0 3 ++ (ks'.map fun (n : Nat) => rawInt n).toArray)) (o := tupO (pk us ks')) rfl
      rw [hz] at this
      exact this
    · exact (Heap.get?_update_other _ _ (Ne.symm hb)).trans (Heap.get?_push_of_some _ ((Heap.get?_update_other _ _ (Ne.symm hb)).trans e))
  · rename_i heq
    have heq' : nx us.length ks = none := heq
    rw [hx] at heq'
    cases heq'
theorem slot_iter : Slot "itertools.combinations" "__iter__" "itertools.combinations.__iter__" := by
  refine Slot.of (owner := "itertools.combinations") (n := "__iter__") ?_ (by decide +kernel) (by decide +kernel) (by decide +kernel) (by first | exact .inl (by decide +kernel) | exact .inr (by decide +kernel)) ?_
  · rw [typeLookup_type, builtinLookup_eq_fast]
    kernel_rfl
  · rw [isSubtype_type]
    kernel_rfl
theorem entry_iter : entryFor table "itertools.combinations.__iter__" = some Builtin.«dict_keyiterator.__iter__» :=
  entryFor_alias (id' := "dict_keyiterator.__iter__") (by kernel_rfl) (by first | rfl | decide +kernel | (unfold String.splitOn; simp +decide [String.splitOnAux])) (by decide +kernel) (by kernel_rfl)
theorem args_iter (a : Value) : argsOk "itertools.combinations.__iter__" ⟨[a], []⟩ := by
  unfold argsOk
  rw [signature?_of (id := "itertools.combinations.__iter__") (n := ['_', '_', 'r', 'e', 't', 'i', '_', '_']) (o := ['s', 'n', 'o', 'i', 't', 'a', 'n', 'i', 'b', 'm', 'o', 'c', '.', 's', 'l', 'o', 'o', 't', 'r', 'e', 't', 'i']) (by kernel_rfl) owner]
  kernel_rfl
/-- the end: StopIteration -/
theorem stop_here {Q : Option Value → Shared → Prop} {h1 : Heap} {s1 : Shared} (hh : A.handled = none) (hQ : ∀ h', (∀ b o, s1.heap.get? b = some o → h'.get? b = some o) → Q none { s1 with heap := h' }) :
    wpAny (model prog w) A.in1 (Builtin.Itertools.itStop (α := Fin)) (fun fin s' => ∃ v, fin = .done (.ret v) ∧ False) (fun e s' => wpAny (model prog w) A (isInstance e (.type "StopIteration")) (fun b s2 => b = true ∧ Q none s2) E s') s1 := by
  show wpAny _ _ (newExc (.type "StopIteration") [] >>= _) _ _ _
  refine wpAny_bind ?_
  simp only [newExc, newTuple]
  refine wpAny_bind (wpAny_newObj_type ?_ (by size_fits))
  refine wpAny_bind (m := firstArgMember _ _) (wpAny_of_eq (a := Value.none) (by first | rfl | (simp only [firstArgMember]; rfl)) ?_)
  refine wpAny_newObj_type ?_ (by size_fits)
  simp only [raiseNew]
  refine wpAny_bind (wpAny_handled ?_)
  rw [show A.in1.handled = none from hh]
  refine wpAny_bind (wpAny_pure (wpAny_throw ?_))
  refine wpAny_isInstance (T := "StopIteration") (b := true) ⟨_, Heap.get?_push_size _ rfl, rfl⟩ isSubtype_stop ?_
  exact ⟨rfl, hQ _ fun b o e => Heap.get?_push_of_some _ (Heap.get?_push_of_some _ e)⟩
end
end Cb
end Mi

namespace Mi
open PySem
open AutoSeq1 (wpAny_loadPart')
namespace Cb
section
variable {prog : Program} {w : World} {A : Around} {E : Value → Shared → Prop} {s : Shared} {it p : Addr} {us : List Value} {ks ks' : List Nat} {old : Value}
theorem nexts {R : Option Value → Shared → Prop} {st : Int} (h0 : s.heap.get? it = some (combO p st old ks)) (h : wpAny (model prog w) A.in1 (Builtin.«itertools.combinations.__next__» ⟨[.ref it], []⟩) (fun fin s' => ∃ v, fin = .done (.ret v) ∧ R (some v) s')
    (fun e s' => wpAny (model prog w) A (isInstance e (.type "StopIteration")) (fun b s2 => b = true ∧ R none s2) E s') s) : wpAny (model prog w) A (pyNext (.ref it)) R E s := by
  have hT : s.TypeIs (.ref it) "itertools.combinations" := ⟨_, h0, rfl⟩
  unfold pyNext
  refine wpAny_bind (wpAny_attempt (wpAny_callSpecial?_slot (name := Str.ofString "__next__") hT slot_next (wpAny_call_entry slot_next hT entry_next (wpAny_mono h (fun fin s' ⟨v, e, q⟩ => ⟨v, e, wpAny_pure q⟩) fun e s' q => ?_) (args_next _))))
  refine wpAny_bind (wpAny_mono q (fun b s2 ⟨hb, q⟩ => ?_) fun _ _ x => x)
  subst hb
  exact wpAny_pure q
theorem pyIter_comb {Q : Value → Shared → Prop} {st : Int} (h0 : s.heap.get? it = some (combO p st old ks)) (h : Q (.ref it) s) : wpAny (model prog w) A (pyIter (.ref it)) Q E s := by
  have hT : s.TypeIs (.ref it) "itertools.combinations" := ⟨_, h0, rfl⟩
  refine wpAny_pyIter_slot hT slot_iter (wpAny_call_entry slot_iter hT entry_iter ?_ (args_iter _))
  show wpAny _ _ (ret (.ref it)) _ _ s
  exact wpAny_pure ⟨_, rfl, "itertools.combinations", _, hT, slot_next.lookup, h⟩
theorem raise_here {R : Option Value → Shared → Prop} {s1 : Shared} {e : Addr} {o : Obj} (hh : A.handled = none) (he : s1.heap.get? e = some o) (hc : o.cls = .type "StopIteration") (h : R none s1) :
    wpAny (model prog w) A.in1 (raiseNew (α := Fin) (.ref e)) (fun fin s' => ∃ v, fin = .done (.ret v) ∧ R (some v) s') (fun e s' => wpAny (model prog w) A (isInstance e (.type "StopIteration")) (fun b s2 => b = true ∧ R none s2) E s') s1 := by
  simp only [raiseNew]
  refine wpAny_bind (wpAny_handled ?_)
  rw [show A.in1.handled = none from hh]
  refine wpAny_bind (wpAny_pure (wpAny_throw ?_))
  exact wpAny_isInstance (T := "StopIteration") (b := true) ⟨_, he, hc⟩ isSubtype_stop ⟨rfl, h⟩
set_option maxHeartbeats 4000000 in
theorem end1 {R : Option Value → Shared → Prop} (hh : A.handled = none) (h0 : s.heap.get? it = some (combO p 1 old ks)) (h1 : s.heap.get? p = some (tupO us)) (hk : ks.length ≤ 1000) (hx : nx us.length ks = none)
    (h : ∀ h', (∀ b o, b ≠ it → s.heap.get? b = some o → h'.get? b = some o) → R none { s with heap := h' }) : wpAny (model prog w) A (pyNext (.ref it)) R E s := by
  refine nexts h0 ?_
  obtain ⟨hp, g, d, tk, os⟩ := s
  have hnp := it_np h0 h1
  have h0' := h0
  unfold combO at h0
  unfold tupO at h1
  unfold Builtin.«itertools.combinations.__next__»
  wp_walk using wpAny_loadPart' h0
  have e1 := nums p 1 old ks
  erw [e1]
  split
  · rename_i next heq
    have heq' : nx us.length ks = some next := heq
    rw [hx] at heq'
    cases heq'
  · wp_walk using wpAny_loadPart' h0
    refine raise_here hh (Heap.get?_push_size _ rfl) rfl (h _ fun b o hb e => ?_)
    exact Heap.get?_push_of_some _ (Heap.get?_push_of_some _ ((Heap.get?_update_other _ _ (Ne.symm hb)).trans e))
theorem end2 {R : Option Value → Shared → Prop} (hh : A.handled = none) (h0 : s.heap.get? it = some (combO p 2 old ks)) 
    (h : ∀ h', (∀ b o, b ≠ it → s.heap.get? b = some o → h'.get? b = some o) → R none { s with heap := h' }) : wpAny (model prog w) A (pyNext (.ref it)) R E s := by
  refine nexts h0 ?_
  obtain ⟨hp, g, d, tk, os⟩ := s
  have h0' := h0
  unfold combO at h0
  unfold Builtin.«itertools.combinations.__next__»
  wp_walk using wpAny_loadPart' h0
  exact raise_here hh (Heap.get?_push_size _ rfl) rfl (h _ fun b o hb e => Heap.get?_push_of_some _ (Heap.get?_push_of_some _ e))
/-! the rows, in order -/
def cmb {α : Type} : Nat → List α → List (List α)
  | 0, _ => [[]]
  | _ + 1, [] => []
  | r + 1, x :: xs => (cmb r xs).map (x :: ·) ++ cmb (r + 1) xs
theorem cmb_map {α β : Type} (f : α → β) : ∀ (r : Nat) (xs : List α), cmb r (xs.map f) = (cmb r xs).map (List.map f)
  | 0, xs => by cases xs <;> rfl
  | _ + 1, [] => rfl
  | r + 1, x :: xs => by
    show (cmb r (xs.map f)).map (f x :: ·) ++ cmb (r + 1) (xs.map f) = ((cmb r xs).map (x :: ·) ++ cmb (r + 1) xs).map (List.map f)
    rw [cmb_map f r xs, cmb_map f (r + 1) xs, List.map_append, List.map_map, List.map_map]
    rfl
theorem cmb_len {α : Type} : ∀ (r : Nat) (xs : List α), (cmb r xs).length ≤ 2 ^ xs.length
  | 0, xs => by
    cases xs with
    | nil => exact Nat.le_refl 1
    | cons x xs => exact Nat.one_le_two_pow
  | _ + 1, [] => Nat.zero_le _
  | r + 1, x :: xs => by
    show ((cmb r xs).map (x :: ·) ++ cmb (r + 1) xs).length ≤ _
    rw [List.length_append, List.length_map, List.length_cons, Nat.pow_succ]
    have := cmb_len r xs
    have := cmb_len (r + 1) xs
    omega
theorem cmb_mem_len {α : Type} : ∀ (r : Nat) (xs ks : List α), ks ∈ cmb r xs → ks.length = r
  | 0, xs, ks, h => by
    have e : cmb 0 xs = [[]] := by cases xs <;> rfl
    rw [e] at h
    rw [List.mem_singleton.mp h]
    rfl
  | _ + 1, [], ks, h => by cases h
  | r + 1, x :: xs, ks, h => by
    rcases List.mem_append.mp h with h | h
    · obtain ⟨t, ht, rfl⟩ := List.mem_map.mp h
      rw [List.length_cons, cmb_mem_len r xs t ht]
    · exact cmb_mem_len (r + 1) xs ks h
theorem cmb_none {α : Type} : ∀ (r : Nat) (xs : List α), xs.length < r → cmb r xs = []
  | 0, _, h => absurd h (Nat.not_lt_zero _)
  | _ + 1, [], _ => rfl
  | r + 1, x :: xs, h => by
    have h : xs.length < r := by simpa using h
    show (cmb r xs).map (x :: ·) ++ cmb (r + 1) xs = []
    rw [cmb_none r xs h, cmb_none (r + 1) xs (by omega)]
    rfl
theorem cmb_head {α : Type} : ∀ (r : Nat) (xs : List α), r ≤ xs.length → (cmb r xs)[0]? = some (xs.take r)
  | 0, xs, _ => by cases xs <;> rfl
  | _ + 1, [], h => absurd h (by simp)
  | r + 1, x :: xs, h => by
    have h : r ≤ xs.length := by simpa using h
    show ((cmb r xs).map (x :: ·) ++ cmb (r + 1) xs)[0]? = _
    have ih := cmb_head r xs h
    have hl : 0 < (cmb r xs).length := (List.getElem?_eq_some_iff.mp ih).1
    rw [List.getElem?_append_left (by rw [List.length_map]; exact hl), List.getElem?_map, ih]
    rfl
theorem nx_nil (n : Nat) : nx n [] = none := rfl
theorem find_map {α β : Type} (f : α → β) (q : β → Bool) (l : List α) : (l.map f).find? q = (l.find? fun x => q (f x)).map f := by
  induction l with
  | nil => rfl
  | cons a l ih =>
    rw [List.map_cons, List.find?_cons, List.find?_cons, ih]
    cases q (f a) <;> rfl
theorem nx_cons (n k : Nat) (t : List Nat) : nx n (k :: t) = match nx n t with
    | some t' => some (k :: t')
    | none => if k = n - (t.length + 1) then none else some ((List.range (t.length + 1)).map (k + 1 + ·)) := by
  unfold nx
  have e : (List.range (k :: t).length).reverse = (List.range t.length).reverse.map (· + 1) ++ [0] := by
    rw [List.length_cons, List.range_succ_eq_map, List.reverse_cons, List.map_reverse]
  rw [e, List.find?_append, find_map]
  have ep : (fun x : Nat => (k :: t).getD (x + 1) 0 != x + 1 + n - (k :: t).length) = fun x => t.getD x 0 != x + n - t.length := by
    funext x
    have e1 : (k :: t).getD (x + 1) 0 = t.getD x 0 := by simp
    have e2 : x + 1 + n - (k :: t).length = x + n - t.length := by rw [List.length_cons]; omega
    rw [e1, e2]
  rw [ep]
  cases hf : (List.range t.length).reverse.find? fun x => t.getD x 0 != x + n - t.length with
  | some i =>
    have hi : i < t.length := by
      have := List.mem_of_find?_eq_some hf
      simpa using this
    show some ((k :: t).take (i + 1) ++ (List.range ((k :: t).length - (i + 1))).map ((k :: t).getD (i + 1) 0 + 1 + ·)) = some (k :: (t.take i ++ (List.range (t.length - i)).map (t.getD i 0 + 1 + ·)))
    have e1 : (k :: t).getD (i + 1) 0 = t.getD i 0 := by simp
    have e2 : (k :: t).length - (i + 1) = t.length - i := by rw [List.length_cons]; omega
    rw [e1, e2]
    rfl
  | none =>
    show (match (none : Option Nat) <|> [0].find? fun i => (k :: t).getD i 0 != i + n - (k :: t).length with | none => none | some i => some ((k :: t).take i ++ (List.range ((k :: t).length - i)).map ((k :: t).getD i 0 + 1 + ·))) = _
    have e3 : ([0].find? fun i => (k :: t).getD i 0 != i + n - (k :: t).length) = if k = n - (t.length + 1) then none else some 0 := by
      rw [List.find?_singleton]
      have : (k :: t).getD 0 0 = k := rfl
      rw [this, Nat.zero_add, List.length_cons]
      by_cases c : k = n - (t.length + 1)
      · rw [if_pos c]
        simp [c]
      · rw [if_neg c]
        simp [c]
    rw [e3]
    by_cases c : k = n - (t.length + 1)
    · simp [c]
    · simp [c]
/-- each row's next is the next row -/
theorem chain : ∀ (m r lo i : Nat) (ks : List Nat), (cmb r (List.range' lo m))[i]? = some ks → nx (lo + m) ks = (cmb r (List.range' lo m))[i + 1]?
  | m, 0, lo, i, ks, h => by
    have e : cmb 0 (List.range' lo m) = [[]] := by cases m <;> rfl
    rw [e] at h ⊢
    cases i with
    | zero => cases h; rfl
    | succ i => simp at h
  | 0, r + 1, lo, i, ks, h => by simp [cmb] at h
  | m + 1, r + 1, lo, i, ks, h => by
    rw [List.range'_succ] at h ⊢
    have ih1 := chain m r (lo + 1)
    have ih2 := chain m (r + 1) (lo + 1)
    have en : lo + 1 + m = lo + (m + 1) := by omega
    rw [en] at ih1 ih2
    have er : (List.range' (lo + 1) m).length = m := List.length_range'
    generalize hA : cmb r (List.range' (lo + 1) m) = A at ih1
    generalize hB : cmb (r + 1) (List.range' (lo + 1) m) = B at ih2
    show nx (lo + (m + 1)) ks = ((cmb r (List.range' (lo + 1) m)).map (lo :: ·) ++ cmb (r + 1) (List.range' (lo + 1) m))[i + 1]?
    replace h : ((cmb r (List.range' (lo + 1) m)).map (lo :: ·) ++ cmb (r + 1) (List.range' (lo + 1) m))[i]? = some ks := h
    rw [hA, hB] at h ⊢
    by_cases c : i < A.length
    · rw [List.getElem?_append_left (by rw [List.length_map]; exact c), List.getElem?_map] at h
      cases ha : A[i]? with
      | none => rw [ha] at h; cases h
      | some a =>
        rw [ha] at h
        cases h
        have hla : a.length = r := cmb_mem_len r _ a (by rw [hA]; exact List.mem_of_getElem? ha)
        have hrm : r ≤ m := by
          apply Nat.le_of_not_lt
          intro z
          rw [cmb_none r _ (by rw [er]; exact z)] at hA
          rw [← hA] at ha
          cases ha
        rw [nx_cons, ih1 i a ha, hla]
        by_cases c2 : i + 1 < A.length
        · rw [List.getElem?_append_left (by rw [List.length_map]; exact c2), List.getElem?_map, List.getElem?_eq_getElem c2]
          rfl
        · rw [List.getElem?_append_right (by rw [List.length_map]; omega), List.length_map, List.getElem?_eq_none (by omega), show i + 1 - A.length = 0 by omega]
          by_cases c3 : lo = lo + (m + 1) - (r + 1)
          · have : m < r + 1 := by omega
            rw [cmb_none (r + 1) _ (by rw [er]; exact this)] at hB
            rw [← hB]
            simp only [if_pos c3]
            rfl
          · have : r + 1 ≤ m := by omega
            rw [← hB, cmb_head (r + 1) _ (by rw [er]; exact this)]
            simp only [if_neg c3]
            congr 1
            have e4 : (List.range' (lo + 1) m).take (r + 1) = List.range' (lo + 1) (r + 1) := by
              apply List.ext_getElem?
              intro j
              by_cases hj : j < r + 1
              · rw [List.getElem?_take_of_lt hj, List.getElem?_range' (by omega), List.getElem?_range' hj]
              · rw [List.getElem?_eq_none (by rw [List.length_take]; omega), List.getElem?_eq_none (by rw [List.length_range']; omega)]
            rw [e4, List.range'_eq_map_range]
    · rw [List.getElem?_append_right (by rw [List.length_map]; omega), List.length_map] at h
      rw [List.getElem?_append_right (by rw [List.length_map]; omega), List.length_map, show i + 1 - A.length = i - A.length + 1 by omega]
      exact ih2 _ _ h
end
end Cb
end Mi
namespace Mi
open PySem PySem.Spec L2
namespace Cb
/-! ### for .. in combinations(..) -/
def Jc (n : Nat) (yp : Nat → List V → Prop) : It :=
  ⟨fun i H => i < n, fun i H v H' => ∃ T vs o, TuO o ∧ v = .ref T ∧ H T = none ∧ H' = upd H T (.frz o (.tup vs)) ∧ yp i vs, fun i H => i = n⟩
def combTn (us : List Value) (r : Nat) (it p : Addr) (i : Nat) (h : Heap) : Prop := h.get? p = some (tupO us) ∧ ∃ st old ks, h.get? it = some (combO p st old ks) ∧ ks.length ≤ 1000 ∧
  ((i = 0 ∧ st = (if r > us.length then 2 else 0) ∧ old = .none ∧ ks = List.range r) ∨ (∃ j, i = j + 1 ∧ st = 1 ∧ (cmb r (List.range us.length))[j]? = some ks))
theorem range_take {r n : Nat} (h : r ≤ n) : (List.range n).take r = List.range r := by
  rw [List.take_range, Nat.min_eq_left h]
theorem comb_len (us : List Value) (r : Nat) : (cmb r (List.range us.length)).length = (cmb r us).length := by
  have e : us = (List.range us.length).map fun i => us.toArray.getD i .none := by
    apply List.ext_getElem?
    intro j
    rw [List.getElem?_map]
    by_cases hj : j < us.length
    · rw [List.getElem?_range hj, List.getElem?_eq_getElem hj]
      simp [hj]
    · rw [List.getElem?_eq_none (by omega), List.getElem?_eq_none (by simp; omega)]
      rfl
  conv => rhs; rw [e, cmb_map, List.length_map]
theorem turn_comb {P : Program} {w : World} {K : PySem.W.Frag} {tg : Expr} {it p : Addr} {vs : List V} {us : List Value} {r : Nat} (rv : Vals vs us) (hr : r ≤ 1000) (hz : us.length ≤ 1000) :
    Turn P w K tg (Jc (cmb r vs).length fun i ws => (cmb r vs)[i]? = some ws) [it, p] it (combTn us r it p) := by
  have hlen : (cmb r vs).length = (cmb r (List.range us.length)).length := by
    have e : vs = (List.range us.length).map fun i => vs.getD i .non := by
      apply List.ext_getElem?
      intro j
      rw [List.getElem?_map, ← rv.length]
      by_cases hj : j < vs.length
      · rw [List.getElem?_range hj, List.getElem?_eq_getElem hj]
        simp [hj]
      · rw [List.getElem?_eq_none (by omega), List.getElem?_eq_none (by simp; omega)]
        rfl
    conv => lhs; rw [e, cmb_map, List.length_map]
  have hyp : ∀ (i : Nat) (ks : List Nat), (cmb r (List.range us.length))[i]? = some ks → ∃ ws, (cmb r vs)[i]? = some ws ∧ Vals ws (pk us ks) := fun i ks hk => by
    have e : vs = (List.range us.length).map fun i => vs.getD i .non := by
      apply List.ext_getElem?
      intro j
      rw [List.getElem?_map, ← rv.length]
      by_cases hj : j < vs.length
      · rw [List.getElem?_range hj, List.getElem?_eq_getElem hj]
        simp [hj]
      · rw [List.getElem?_eq_none (by omega), List.getElem?_eq_none (by simp; omega)]
        rfl
    refine ⟨ks.map fun i => vs.getD i .non, ?_, ?_⟩
    · conv => lhs; rw [e, cmb_map, List.getElem?_map, hk]
      rfl
    · have hm : ∀ k ∈ ks, k < us.length := by
        have : ∀ (q : Nat) (xs ks : List Nat), ks ∈ cmb q xs → ∀ k ∈ ks, k ∈ xs := by
          intro q xs
          induction xs generalizing q with
          | nil =>
            intro ks h k hk
            cases q with
            | zero => simp [cmb] at h; subst h; exact hk
            | succ q => simp [cmb] at h
          | cons x xs ih =>
            intro ks h k hk
            cases q with
            | zero => simp [cmb] at h; subst h; cases hk
            | succ q =>
              rcases List.mem_append.mp h with h | h
              · obtain ⟨t, ht, rfl⟩ := List.mem_map.mp h
                rcases List.mem_cons.mp hk with rfl | hk
                · exact List.mem_cons_self
                · exact List.mem_cons_of_mem _ (ih q t ht k hk)
              · exact List.mem_cons_of_mem _ (ih (q + 1) ks h k hk)
        intro k hkk
        have := this r _ ks (List.mem_of_getElem? hk) k hkk
        simpa using this
      unfold pk
      clear hk
      induction ks with
      | nil => exact .nil
      | cons k t ih =>
        refine .cons ?_ (ih fun a ha => hm a (List.mem_cons_of_mem _ ha))
        have hk : k < vs.length := by rw [rv.length]; exact hm k List.mem_cons_self
        obtain ⟨u, h1, h2⟩ := rv.get (List.getElem?_eq_getElem hk)
        have e1 : vs.getD k .non = vs[k] := by simp [hk]
        have e2 : us.toArray.getD k .none = u := by
          have hku : k < us.length := hm k List.mem_cons_self
          rw [List.getElem?_eq_getElem hku] at h1
          cases h1
          simp [hku]
        show RelV (vs.getD k .non) (us.toArray.getD k .none)
        rw [e1, e2]
        exact h2
  have hL0 : ∀ {i : Nat} {ks : List Nat}, (cmb r (List.range us.length))[i]? = some ks → nx us.length ks = (cmb r (List.range us.length))[i + 1]? := fun {i ks} h => by
    have := chain us.length r 0 i ks (by rw [← List.range_eq_range']; exact h)
    rw [← List.range_eq_range', Nat.zero_add] at this
    exact this
  have hkl : ∀ {i : Nat} {ks : List Nat}, (cmb r (List.range us.length))[i]? = some ks → ks.length ≤ 1000 := fun {i ks} h => by
    rw [cmb_mem_len r _ ks (List.mem_of_getElem? h)]
    exact hr
  refine ⟨by simp, fun i h st b hb => ?_, fun i h h' st k => ?_, ?_, ?_, fun A i s Q E st h => ?_⟩
  · obtain ⟨h1, st', old, ks, h2, _⟩ := st
    have e : b = it ∨ b = p := by simpa using hb
    rcases e with rfl | rfl
    · exact ⟨_, h2, fun v q => nomatch q⟩
    · exact ⟨_, h1, fun v q => nomatch q⟩
  · obtain ⟨h1, st', old, ks, h2, h3⟩ := st
    exact ⟨k p (by simp) _ h1, st', old, ks, k it (by simp) _ h2, h3⟩
  · intro X hP hw hK hc i pins s σ H E I hf st hg
    subst hP hw hK
    have hi : i < (cmb r vs).length := hg
    obtain ⟨h1, st', old, ks, h2, hk, h3⟩ := st
    have fin : ∀ {ks' : List Nat} {h' : Heap}, (cmb r (List.range us.length))[i]? = some ks' → out h' s it p us ks' →
        ∃ u, some (Value.ref s.heap.objs.size) = some u ∧ wpAny (model X.prog X.w) X.A (letOwnedTupleGo tg (.ref it) u) (fun _ s2 => ∃ x H', Inv X pins σ H' s2 ∧ RelV x u ∧ (Jc (cmb r vs).length fun i ws => (cmb r vs)[i]? = some ws).yld i H x H' ∧ combTn us r it p (i + 1) s2.heap ∧ ∀ b ∈ [it, p], H' b = none) E { s with heap := h' } := by
      intro ks' h' hks ho
      obtain ⟨o1, o2, o3⟩ := ho
      obtain ⟨ws, w1, w2⟩ := hyp i ks' hks
      refine ⟨_, rfl, go_of (s := { s with heap := h' }) o1 rfl rfl (by decide) ?_⟩
      have wl : ws.length ≤ sizeLine := by
        have := w2.length
        unfold pk at this
        rw [List.length_map] at this
        have := hkl hks
        rw [sizeLine_eq]
        omega
      have I1 : Inv X pins σ (upd H s.heap.objs.size (.frz (nT (pk us ks')) (.tup ws))) { s with heap := h' } :=
        I.turnedNew (t' := s.toks) (ch := [it]) (fun b o hb e => o3 b o (fun z => hb (by simp [z])) e) (fun b hb => hf b (by simp at hb ⊢; exact .inl hb)) (Nat.le_refl _) (okT w2 wl o2)
      refine ⟨.ref s.heap.objs.size, _, I1, rfl, ⟨_, ws, _, nT_TuO _, rfl, I.hok.fresh (Nat.le_refl _), rfl, w1⟩, ⟨?_, 1, _, ks', o1, hkl hks, .inr ⟨i, rfl, rfl, hks⟩⟩, fun b hb => ?_⟩
      · refine o3 p _ (fun z => ?_) h1
        exact it_np h2 h1 z.symm
      · rw [upd_ne]
        · exact (hf b hb).1
        · have e : b = it ∨ b = p := by simpa using hb
          rcases e with rfl | rfl
          · exact Nat.ne_of_lt (Heap.lt_size h2)
          · exact Nat.ne_of_lt (Heap.lt_size h1)
    rcases h3 with ⟨e0, e1, e2, e3⟩ | ⟨j, ej, e1, hj⟩
    · subst e0
      have hrl : r ≤ us.length := by
        apply Nat.le_of_not_lt
        intro z
        rw [hlen, cmb_none r _ (by rw [List.length_range]; exact z)] at hi
        exact absurd hi (Nat.lt_irrefl 0)
      rw [if_neg (by omega)] at e1
      subst e1 e2
      have hks : (cmb r (List.range us.length))[0]? = some ks := by
        rw [cmb_head r _ (by rw [List.length_range]; exact hrl), range_take hrl, e3]
      refine nexts h2 (next0 h2 h1 hk fun h' ho => ?_)
      exact fin hks ho
    · subst ej e1
      have hi' : j + 1 < (cmb r (List.range us.length)).length := by rw [← hlen]; exact hi
      have hnx := hL0 hj
      rw [List.getElem?_eq_getElem hi'] at hnx
      have hks := List.getElem?_eq_getElem hi'
      exact nexts h2 (next1 h2 h1 hk (hkl hks) hnx fun h' ho => fin hks ho)
  · intro X hP hw hK hc i pins s σ H E I hf st hg
    subst hP hw hK
    have hi : i = (cmb r vs).length := hg
    obtain ⟨h1, st', old, ks, h2, hk, h3⟩ := st
    have hh := I.ok.hd hc
    have fin : ∀ {h' : Heap}, (∀ b o, b ≠ it → s.heap.get? b = some o → h'.get? b = some o) → (none : Option Value) = none ∧ Inv X pins σ H { s with heap := h' } := fun {h'} k =>
      ⟨rfl, I.turnedL (t' := s.toks) (ch := [it]) (fun b o hb e => k b o (fun z => hb (by simp [z])) e) fun b hb => hf b (by simp at hb ⊢; exact .inl hb)⟩
    rcases h3 with ⟨e0, e1, e2, e3⟩ | ⟨j, ej, e1, hj⟩
    · subst e0
      have hrl : r > us.length := by
        apply Nat.lt_of_not_le
        intro z
        have := cmb_head r (List.range us.length) (by rw [List.length_range]; exact z)
        have h4 := (List.getElem?_eq_some_iff.mp this).1
        omega
      rw [if_pos hrl] at e1
      subst e1
      exact end2 hh h2 fun h' k => fin k
    · subst ej e1
      have hnx := hL0 hj
      rw [List.getElem?_eq_none (by omega)] at hnx
      exact end1 hh h2 h1 hk hnx fun h' k => fin k
  · obtain ⟨h1, st', old, ks, h2, _⟩ := st
    exact pyIter_comb h2 h
end Cb
end Mi
namespace Mi
open PySem PySem.Spec L2
namespace Cb
theorem args_init3 (a b c : Value) : argsOk "object.__init__" ⟨[a, b, c], []⟩ := by
  unfold argsOk
  rw [signature?_of (id := "object.__init__") (n := ['_', '_', 't', 'i', 'n', 'i', '_', '_']) (o := ['t', 'c', 'e', 'j', 'b', 'o']) (by kernel_rfl) F.owner_object]
  kernel_rfl
theorem coll_seq {a : Addr} {us : List Value} {T : String} (hT : T = "list" ∨ T = "tuple") (hz : us.length ≤ sizeLine) : Coll (.ref a) (fun items => items = us) (fun h => ∃ o n, h.get? a = some o ∧ o.cls = .type T ∧ o.data = .seq us.toArray n) := by
  refine ⟨fun prog w A E s Q hh ⟨o, n, h1, h2, h3⟩ hQ => ?_⟩
  exact wpAny_collect_seq a hT h1 h2 h3 (fun h' hk => hQ us h' s.toks rfl hk) (by rw [List.size_toArray]; exact hz)
theorem coll_range {a : Addr} {lo hi : Int} {t u v : Tok} (h : RgOk lo hi) : Coll (.ref a) (fun items => Vals (rgV lo hi) items) (fun h => IsRange h a lo hi 1 t u v) := by
  refine ⟨fun prog w A E s Q hh h1 hQ => ?_⟩
  obtain ⟨b1, b2, b3, b4, b5⟩ := h
  exact collect_range (n := (hi - lo).toNat) hh h1 (small_one b1 b2 b3 b4) (PyProof.Rows.rangeSize_nat lo hi) b5 fun h' tk acc hk hi' => hQ _ h' tk (vals_rg hi') hk
theorem paired_map {α β γ δ : Type} {R : α → β → Prop} {S : γ → δ → Prop} {f : α → γ} {g : β → δ} (h : ∀ a b, R a b → S (f a) (g b)) : ∀ {l : List α} {m : List β}, Paired R l m → Paired S (l.map f) (m.map g)
  | _, _, .nil => .nil
  | _, _, .cons a t => .cons (h _ _ a) (paired_map h t)
theorem paired_app {α β : Type} {R : α → β → Prop} : ∀ {l l' : List α} {m m' : List β}, Paired R l m → Paired R l' m' → Paired R (l ++ l') (m ++ m')
  | _, _, _, _, .nil, q => q
  | _, _, _, _, .cons a t, q => .cons a (paired_app t q)
theorem rvs_cmb {K : Fg} {F : Hp} : ∀ (r : Nat) {xs : List D} {vs : List V}, Rvs K F xs vs → Paired (Rvs K F) (cmb r xs) (cmb r vs)
  | 0, xs, vs, h => by
    have e1 : cmb 0 xs = [[]] := by cases xs <;> rfl
    have e2 : cmb 0 vs = [[]] := by cases vs <;> rfl
    rw [e1, e2]
    exact .cons .nil .nil
  | r + 1, _, _, .nil => .nil
  | r + 1, _, _, .cons (d := d) (v := v) a t => by
    have h1 := rvs_cmb r t
    have h2 := rvs_cmb (r + 1) t
    exact paired_app (paired_map (fun _ _ x => .cons a x) h1) h2
theorem paired_at {α β : Type} {R : α → β → Prop} : ∀ {l : List α} {m : List β} {i : Nat} {y : β}, Paired R l m → m[i]? = some y → ∃ x, l[i]? = some x ∧ R x y
  | _, _, _, _, .nil, e => by simp at e
  | _, _, 0, _, .cons r _, e => by simp at e; subst e; exact ⟨_, rfl, r⟩
  | _, _, i + 1, y, .cons _ t, e => by
    obtain ⟨x, h1, h2⟩ := paired_at (i := i) t (by simpa using e)
    exact ⟨x, by simpa using h1, h2⟩
end Cb
open Cb
def combD (xs : List D) (r : Int) : List D := (cmb r.toNat xs).map .tuple
theorem combD_len (xs : List D) (r : Int) : (combD xs r).length = (cmb r.toNat xs).length := by
  unfold combD
  rw [List.length_map]
def combOk (xs : List D) (r : Int) : Prop := xs.length ≤ 1000 ∧ 0 ≤ r ∧ r ≤ 1000 ∧ (cmb r.toNat xs).length ≤ 16777216
def iComb (m m' : SE) : SI := fun env Q => m env fun d => m' env fun z => match z with
  | .int r => obL (seqOf d) fun xs => combOk xs r ∧ Q (combD xs r)
  | _ => False
def combK (n : Int) (Q : List D → Prop) (z : D) : Prop := match z with
  | .int r => combOk (dInts (rng 0 n)) r ∧ Q (combD (dInts (rng 0 n)) r)
  | _ => False
def iCombR (m m' : SE) : SI := fun env Q => m env fun d => match d with
  | .int n => 0 ≤ n ∧ m' env (combK n Q)
  | _ => False
theorem iComb_mono {X : Cx} {b : Bool} {a c : Expr} {ma mc : SE} (ha : ME X b a ma) (hc : ME X true c mc) (env : En) (P Q : List D → Prop) (k : ∀ d, P d → Q d) (h : iComb ma mc env P) : iComb ma mc env Q :=
  ha.mono _ _ _ (fun d hd => hc.mono _ _ _ (fun z hz => by cases z <;> first | exact obL_mono (fun xs h => ⟨h.1, k _ h.2⟩) hz | exact hz) hd) h
theorem iCombR_mono {X : Cx} {b : Bool} {a c : Expr} {ma mc : SE} (ha : ME X b a ma) (hc : ME X true c mc) (env : En) (P Q : List D → Prop) (k : ∀ d, P d → Q d) (h : iCombR ma mc env P) : iCombR ma mc env Q :=
  ha.mono _ _ _ (fun d hd => by
    cases d with
    | int n => exact ⟨hd.1, hc.mono _ _ _ (fun z hz => by cases z <;> first | exact ⟨hz.1, k _ hz.2⟩ | exact hz) hd.2⟩
    | _ => exact hd.elim) h
section
variable {X : Cx} {b : Bool} {a c tg : Expr} {ma mc : SE} {pos p : Pos} {x : Str}
/-- behind the call -/
theorem comb_fin {pins : List (Addr × Obj)} {σ : L2.St} {H F F0 H0 : Hp} {y : Cy} {dr : Option Addr} {env : En} {s : Shared} {R : It → Hp → Prop} {v : Value} {t : Tok} {r : Int} {xs : List D} {vs : List V} {Pi : List Value → Prop} {Bh : Heap → Prop} (hc : X.calm = true) (I : Inv X pins σ H s) (re : Re X.G y dr F env σ H) (s0 : Ex dr F0 H0 F H) (hB : Bh s.heap) (C : Coll v Pi Bh) (hPi : ∀ us, Pi us → Vals vs us) (rv : Rvs X.G F xs vs) (ok : combOk xs r)
    (hR : ∀ J H' F' G Y, Re X.G y dr F' env σ H' → Ex dr F0 H0 F' H' → (combD xs r).length ≤ sizeLine → Walk J (combD xs r).length G Y → GOk b dr F' H' G → YOk X.G F' (combD xs r) G Y → R J H') :
    wpAny (model X.prog X.w) X.A (call (.type "itertools.combinations") [v, .int r t]) (fun v s1 => wpAny (model X.prog X.w) X.A (pyIter v) (PIE X pins σ tg R) X.xe s1) X.xe s := by
  obtain ⟨k1, k2, k3, k4⟩ := ok
  obtain ⟨n, rfl⟩ : ∃ n : Nat, r = (n : Int) := ⟨r.toNat, by omega⟩
  have lv : ∀ us, Pi us → us.length = xs.length := fun us h => by rw [rv.length]; exact (hPi us h).length.symm
  refine callType_new called (by decide) (tc _ _) (nc _ _) (fun obj => args_init3 obj _ _) entry_new (meets_new C n t (by omega) fun us h => by rw [lv us h, sizeLine_eq]; omega) ⟨I.ok.hd hc, hB, fun us h' tk hp hk => ?_⟩
  have hz : us.length ≤ 1000 := by rw [lv us hp]; exact k1
  have I1 : Inv X pins σ H { s with heap := h', toks := tk } := I.kept hk
  have g1 : (h'.push (tupO us)).get? h'.objs.size = some (tupO us) := Heap.get?_push_size _ rfl
  have zs : (h'.push (tupO us)).objs.size = h'.objs.size + 1 := Heap.size_push ..
  have g2 : ((h'.push (tupO us)).push (combO h'.objs.size (if n > us.length then 2 else 0) .none (List.range n))).get? (h'.push (tupO us)).objs.size = some (combO h'.objs.size (if n > us.length then 2 else 0) .none (List.range n)) := Heap.get?_push_size _ rfl
  have hk2 : ∀ b o, h'.get? b = some o → ((h'.push (tupO us)).push (combO h'.objs.size (if n > us.length then 2 else 0) .none (List.range n))).get? b = some o := fun b o e => Heap.get?_push_of_some _ (Heap.get?_push_of_some _ e)
  have I2 : Inv X pins σ H { s with heap := (h'.push (tupO us)).push (combO h'.objs.size (if n > us.length then 2 else 0) .none (List.range n)), toks := tk } := I1.kept (t' := tk) hk2
  refine ⟨⟨_, g2, rfl⟩, ?_⟩
  refine pyIter_comb g2 ⟨(h'.push (tupO us)).objs.size, [(h'.push (tupO us)).objs.size, h'.objs.size], _, _, H, rfl, I2, turn_comb (hPi us hp) (by omega) hz, ⟨Heap.get?_push_of_some _ g1, _, _, _, g2, by rw [List.length_range]; omega, .inl ⟨rfl, rfl, rfl, rfl⟩⟩, fun q hq => ?_, ?_⟩
  · have e : q = (h'.push (tupO us)).objs.size ∨ q = h'.objs.size := by simpa using hq
    have hle : h'.objs.size ≤ q := by
      rcases e with z | z
      · rw [z, zs]; exact Nat.le_add_right _ _
      · rw [z]; exact Nat.le_refl _
    exact I1.fpOk hle (I1.hok.fresh hle)
  · have pr := rvs_cmb n rv
    have hl : (cmb n xs).length = (cmb n vs).length := pr.length
    refine hR _ H F (fun _ => True) (fun i H v H' => ∃ T ws o, TuO o ∧ v = .ref T ∧ H T = none ∧ H' = upd H T (.frz o (.tup ws)) ∧ (cmb n vs)[i]? = some ws) re s0 ?_ ?_ ⟨fun _ _ _ => trivial, fun _ _ _ => trivial⟩ ?_
    · rw [combD_len, sizeLine_eq]
      exact k4
    · rw [combD_len, Int.toNat_natCast, hl]
      exact ⟨fun i H hi _ => hi, fun H _ => rfl, fun i H x H' _ _ h => h⟩
    · rintro i H1 v H2 hi' _ ⟨T, ws, o, to, rfl, hT, rfl, hw⟩ y1 dr1 F1 env1 σ1 re1 s1
      obtain ⟨ds, h1, h2⟩ := paired_at pr hw
      refine ⟨_, re1.ex hT, re1.laid hT, ⟨.tuple ds, ?_, Rv.tupNew (re1.nF hT) to ?_ (h2.mono s1)⟩, upd_grow hT, fun D hD hne => ?_⟩
      · unfold combD
        rw [Int.toNat_natCast, List.getElem?_map, h1]
        rfl
      · have := cmb_mem_len n xs ds (List.mem_of_getElem? h1)
        rw [this, sizeLine_eq]
        omega
      · rw [upd_ne (fun z => hne (by rw [z]; exact hT))]
        exact hD
theorem mi_comb (hcm : X.calm = true) (hg : Gl X x) (hm : X.mg x = some (.type "itertools.combinations")) (ha : ME X true a ma) (hc : ME X true c mc) (hdb : (x == ("__debug__" : Str)) = false := by decide)
    (hs : starEach [a, c] X.env = (false, eval a X.env) :: starEach [c] X.env := by rfl) (hs2 : starEach [c] X.env = (false, eval c X.env) :: starEach [] X.env := by rfl) (hpl : (backTo pos (starEach [c] X.env)).any (·.1) = false := by rfl) :
    MI X b tg (.Call (.Name x p) [a, c] [] pos) (iComb ma mc) := by
  refine ⟨⟨fun pins s σ H R I h => ?_⟩, iComb_mono ha hc⟩
  obtain ⟨y, dr, F, env, re, hm2⟩ := h
  refine PyProof.Rows.Call_ (ld_glob I hg hm (PyProof.Rows.callWith_type1 (thn ((pa_cons ha.run (pa_cons hc.run pa_nil hs2) hs).run pos pins s σ H (fun vs H1 => ∃ y dr F' env' v r xs p1 us, vs = [v, .int r] ∧ Re X.G y dr F' env' σ H1 ∧ v = .ref p1 ∧ (SqL X.G H1 p1 us ∨ SqT X.G H1 p1 us) ∧ xs.length ≤ sizeLine ∧ Rvs X.G F' xs us ∧ combOk xs r ∧
      ∀ J H' F2 G Y, Re X.G y dr F2 env' σ H' → Ex dr F' H1 F2 H' → (combD xs r).length ≤ sizeLine → Walk J (combD xs r).length G Y → GOk b dr F2 H' G → YOk X.G F2 (combD xs r) G Y → R J H') I ?_) fun us s1 ⟨vs, H1, I1, r1, q1⟩ => ?_) hs hpl) hdb)
  · refine ⟨y, dr, F, env, re, ha.mono _ _ _ (fun d hd v H1 F1 r1 s1 w1 => ?_) hm2⟩
    refine ⟨y, dr, F1, env, r1, hc.mono _ _ _ (fun z hz v2 H2 F2 r2 s2 w2 => ?_) hd⟩
    cases z with
    | int r =>
      cases q : seqOf d with
      | none => simp only [q] at hz; exact hz.elim
      | some xs =>
        simp only [q] at hz
        obtain ⟨ok, hz⟩ := hz
        obtain ⟨p1, us, rfl, e1, z1, rv⟩ := seq_of r2 (w1.mono s2) q
        have := w2.int
        subst this
        exact ⟨y, dr, F2, env, _, r, xs, p1, us, rfl, r2, rfl, e1, z1, rv, ok, fun J H' F3 G Y r3 s3 => hz J H' F3 G Y r3 ((s1.trans s2).trans s3)⟩
    | _ => exact hz.elim
  · obtain ⟨y, dr, F, env, v, r, xs, p1, ws, rfl, re1, rfl, e1, z1, rv, ok, hR⟩ := q1
    cases r1 with
    | cons ra rr =>
      cases rr with
      | cons rb rr =>
        cases rr
        cases ra
        obtain ⟨t, rfl⟩ := rb
        rcases e1 with e1 | e1
        · obtain ⟨its, rvv, pl, hz⟩ := I1.list e1
          refine comb_fin (Bh := fun h => ∃ o n, h.get? p1 = some o ∧ o.cls = .type "list" ∧ o.data = .seq its.toArray n) hcm I1 re1 Ex.refl ?_ (coll_seq (.inl rfl) (by rw [← rvv.length]; exact hz)) (fun us h => by rw [h]; exact rvv) rv ok hR
          obtain ⟨o, h1, h2, n, h3⟩ := pl.isList
          exact ⟨o, n, h1, h2, h3⟩
        · obtain ⟨its, rvv, pl, hz⟩ := I1.tuple e1
          refine comb_fin (Bh := fun h => ∃ o n, h.get? p1 = some o ∧ o.cls = .type "tuple" ∧ o.data = .seq its.toArray n) hcm I1 re1 Ex.refl ?_ (coll_seq (.inr rfl) (by rw [← rvv.length]; exact hz)) (fun us h => by rw [h]; exact rvv) rv ok hR
          obtain ⟨o, h1, h2, n, h3⟩ := pl
          exact ⟨o, n, h1, h2, h3⟩
theorem prg_pin {p2 pos2 : Pos} (hg : Gl X "range") (hm : X.mg "range" = none) (ha : PE X a (lE X.G true ma)) (na : starEach [a] X.env = (false, eval a X.env) :: starEach [] X.env) {pins : List (Addr × Obj)} {s : Shared} {σ : L2.St} {H : Hp} {Q : Int → Hp → Prop} (I : Inv X pins σ H s)
    (h : lE X.G true ma σ H fun x H1 => ∃ n, x = .int n ∧ Q n H1) :
    wpAny (model X.prog X.w) X.A (eval (.Call (.Name "range" p2) [a] [] pos2) X.env) (fun x s' => ∃ q n t u v H' ob, x = .ref q ∧ IsRange s'.heap q 0 n 1 t u v ∧ s'.heap.get? q = some ob ∧ Inv X ((q, ob) :: pins) σ H' s' ∧ Q n H') X.xe s := by
  refine PyProof.Rows.Call_ (ld_blt I hg hm PyProof.Rows.boot_range (PyProof.Rows.callWith_type1 (one_arg ha I h (fun v s2 x H2 I2 r q => ?_) na) na))
  obtain ⟨n, rfl, q⟩ := q
  obtain ⟨t, rfl⟩ := r
  refine call_range_1 ?_
  have g := IsRange.new s2.heap 0 n 1 0 t 0
  have I3 := I2.kept (t' := s2.toks) fun b u e => Heap.get?_push_of_some { cls := .type "range", data := .fields #[.int 0 0, .int n t, .int 1 0] } e
  have fp := I2.fpOk (Nat.le_refl _) (I2.hok.fresh (Nat.le_refl _))
  refine ⟨_, n, _, _, _, H2, _, rfl, IsRange.new _ _ _ _ _ _ _, IsRange.new _ _ _ _ _ _ _, ?_, q⟩
  refine Inv.pins_of (pins := pins) (I2.kept fun b u e => Heap.get?_push_of_some _ e) fun p hp => ?_
  rcases List.mem_cons.mp hp with rfl | hp
  · exact ⟨IsRange.new _ _ _ _ _ _ _, fp.1, fp.2.1, fp.2.2.1, fun v e => nomatch e⟩
  · obtain ⟨e1, e2, e3, e4, e5⟩ := I2.pin p (List.mem_append_right _ hp)
    exact ⟨Heap.get?_push_of_some _ e1, e2, e3, e4, e5⟩
theorem mi_combR {p2 pos2 : Pos} (hcm : X.calm = true) (hg : Gl X x) (hm : X.mg x = some (.type "itertools.combinations")) (hg2 : Gl X "range") (hm2 : X.mg "range" = none) (ha : ME X true a ma) (hc : ME X true c mc) (hdb : (x == ("__debug__" : Str)) = false := by decide)
    (na : starEach [a] X.env = (false, eval a X.env) :: starEach [] X.env := by rfl)
    (hs : starEach [.Call (.Name "range" p2) [a] [] pos2, c] X.env = (false, eval (.Call (.Name "range" p2) [a] [] pos2) X.env) :: starEach [c] X.env := by rfl) (hs2 : starEach [c] X.env = (false, eval c X.env) :: starEach [] X.env := by rfl) (hpl : (backTo pos (starEach [c] X.env)).any (·.1) = false := by rfl) :
    MI X b tg (.Call (.Name x p) [.Call (.Name "range" p2) [a] [] pos2, c] [] pos) (iCombR ma mc) := by
  refine ⟨⟨fun pins s σ H R I h => ?_⟩, iCombR_mono ha hc⟩
  obtain ⟨y, dr, F, env, re, hm3⟩ := h
  refine PyProof.Rows.Call_ (ld_glob I hg hm (PyProof.Rows.callWith_type1 (PyProof.Rows.args_cons (thn (prg_pin hg2 hm2 ha.run na (Q := fun hi H1 => 0 ≤ hi ∧ lE X.G true mc σ H1 fun v2 H2 => ∃ y dr F2 env r, v2 = .int r ∧ Re X.G y dr F2 env σ H2 ∧ combOk (dInts (rng 0 hi)) r ∧
      ∀ J H' F3 G Y, Re X.G y dr F3 env σ H' → Ex dr F2 H2 F3 H' → (combD (dInts (rng 0 hi)) r).length ≤ sizeLine → Walk J (combD (dInts (rng 0 hi)) r).length G Y → GOk b dr F3 H' G → YOk X.G F3 (combD (dInts (rng 0 hi)) r) G Y → R J H') I ?_) fun v1 s1 ⟨q, hi, t1, t2, t3, H1, ob, ex, hr, hob, I1, q1⟩ => ?_) hs) hs hpl) hdb)
  · refine ⟨y, dr, F, env, re, ha.mono _ _ _ (fun d hd v H1 F1 r1 s1 w1 => ?_) hm3⟩
    cases d with
    | int n =>
      refine ⟨n, w1.int, hd.1, y, dr, F1, env, r1, hc.mono _ _ _ (fun z hz v2 H2 F2 r2 s2 w2 => ?_) hd.2⟩
      cases z with
      | int r => exact ⟨y, dr, F2, env, r, w2.int, r2, hz.1, fun J H' F3 G Y r3 s3 => hz.2 J H' F3 G Y r3 ((s1.trans s2).trans s3)⟩
      | _ => exact hz.elim
    | _ => exact hd.elim
  · obtain ⟨h0, q1⟩ := q1
    subst ex
    refine one_arg hc.run I1 q1 (fun u s2 x2 H2 I2 rr q2 => ?_) hs2
    obtain ⟨y, dr, F2, env, r, e2, re2, ok, hR⟩ := q2
    subst e2
    obtain ⟨t, rfl⟩ := rr
    have hlen : hi ≤ 1000 := by
      have := ok.1
      rw [rng_len] at this
      omega
    have hq := I2.pin (q, ob) (List.mem_append_right _ List.mem_cons_self)
    have hr2 : IsRange s2.heap q 0 hi 1 t1 t2 t3 := by
      have e : some ob = some _ := hob.symm.trans hr
      cases e
      exact hq.1
    have I3 : Inv X pins σ H2 s2 := I2.pins_of fun p hp => I2.pin p (List.mem_append_right _ (List.mem_cons_of_mem _ hp))
    have rv : Rvs X.G F2 (dInts (rng 0 hi)) (rgV 0 hi) := by
      rw [rgV_eq]
      exact Rvs.ofInts _
    exact comb_fin (Bh := fun h => IsRange h q 0 hi 1 t1 t2 t3) hcm I3 re2 Ex.refl hr2 (coll_range ⟨by omega, by omega, by omega, by omega, by omega⟩) (fun us h => h) rv ok hR
end
@[simp] theorem u_iComb {m m' : SE} {env : En} {Q : List D → Prop} : iComb m m' env Q = (m env fun d => m' env fun z => match z with
  | .int r => obL (seqOf d) fun xs => combOk xs r ∧ Q (combD xs r)
  | _ => False) := rfl
@[simp] theorem u_iCombR {m m' : SE} {env : En} {Q : List D → Prop} : iCombR m m' env Q = (m env fun d => match d with
  | .int n => 0 ≤ n ∧ m' env (combK n Q)
  | _ => False) := rfl
@[simp] theorem combK_i {n r : Int} {Q : List D → Prop} : combK n Q (.int r) = (combOk (dInts (rng 0 n)) r ∧ Q (combD (dInts (rng 0 n)) r)) := rfl
theorem combOk_i {xs : List D} {r : Int} (h1 : xs.length ≤ 20) (h2 : 0 ≤ r) (h3 : r ≤ 1000) : combOk xs r := by
  refine ⟨by omega, h2, h3, Nat.le_trans (cmb_len _ _) (Nat.le_trans (Nat.pow_le_pow_right (by decide) h1) (by decide))⟩
end Mi

namespace Mi
open PySem PySem.Spec L2
/-! ### orders of coded things -/
structure Lo {α : Type} [DecidableEq α] (enc : α → D) (lt : α → α → Bool) : Prop where
  lt_ : ∀ a b, PySem.W.dataLt (enc a) (enc b) = lt a b
  al : ∀ a b, PySem.W.alike (enc a) (enc b) = true
  ev : ∀ a b, PyData.eqv (enc a) (enc b) = decide (a = b)
  as : ∀ a b, lt a b = true → lt b a = false
  tr : ∀ a b c, lt b a = false → lt c b = false → lt c a = false
  anti : ∀ a b, lt a b = false → lt b a = false → a = b
section
variable {α β γ : Type} [DecidableEq α] [DecidableEq β] [DecidableEq γ] {enc : α → D} {lt : α → α → Bool} {enc2 : β → D} {lt2 : β → β → Bool} {enc3 : γ → D} {lt3 : γ → γ → Bool}
theorem Lo.irr (h : Lo enc lt) (a : α) : lt a a = false := by
  cases q : lt a a with
  | false => rfl
  | true => have := h.as a a q; rw [q] at this; cases this
theorem Lo.trT (h : Lo enc lt) {a b c : α} (h1 : lt a b = true) (h2 : lt b c = true) : lt a c = true := by
  cases q : lt a c with
  | true => rfl
  | false =>
    have e := h.anti a c q (h.tr a b c (h.as _ _ h1) (h.as _ _ h2))
    subst e
    rw [h.as _ _ h1] at h2
    cases h2
def ltI (a b : Int) : Bool := decide (a < b)
theorem lo_int : Lo PyData.int ltI where
  lt_ := fun a b => PySem.W.dataLt_int a b
  al := fun a b => by simp [PySem.W.alike]
  ev := fun a b => by
    show (a == b) = _
    by_cases c : a = b <;> simp [c]
  as := fun a b h => by unfold ltI at *; simp at *; omega
  tr := fun a b c h1 h2 => by unfold ltI at *; simp at *; omega
  anti := fun a b h1 h2 => by unfold ltI at *; simp at *; omega
theorem lo_str : Lo PyData.str ltS where
  lt_ := fun a b => PySem.W.dataLt_str a b
  al := fun a b => by simp [PySem.W.alike]
  ev := fun a b => cod_str.eq a b
  as := fun a b h => by
    unfold ltS at *
    rw [decide_eq_true_eq] at h
    rw [decide_eq_false_iff_not]
    exact fun z => List.lt_irrefl _ (List.lt_trans h z)
  tr := fun a b c h1 h2 => by
    unfold ltS at *
    rw [decide_eq_false_iff_not] at *
    exact List.not_lt.mpr (List.le_trans (List.not_lt.mp h1) (List.not_lt.mp h2))
  anti := fun a b h1 h2 => by
    unfold ltS at *
    rw [decide_eq_false_iff_not] at *
    exact cps_inj (List.le_antisymm (List.not_lt.mp h2) (List.not_lt.mp h1))
/-! pairs, triples, rows -/
def ltP (l1 : α → α → Bool) (l2 : β → β → Bool) (p q : α × β) : Bool := if p.1 = q.1 then l2 p.2 q.2 else l1 p.1 q.1
theorem lo_pairO (h : Lo enc lt) (h2 : Lo enc2 lt2) : (∀ a b : α × β, ltP lt lt2 a b = true → ltP lt lt2 b a = false) ∧ (∀ a b c : α × β, ltP lt lt2 b a = false → ltP lt lt2 c b = false → ltP lt lt2 c a = false) ∧ (∀ a b : α × β, ltP lt lt2 a b = false → ltP lt lt2 b a = false → a = b) := by
  refine ⟨fun a b h1 => ?_, fun a b c h1 h3 => ?_, fun a b h1 h3 => ?_⟩
  · unfold ltP at *
    by_cases c : a.1 = b.1
    · rw [if_pos c] at h1
      rw [if_pos c.symm]
      exact h2.as _ _ h1
    · rw [if_neg c] at h1
      rw [if_neg (fun z => c z.symm)]
      exact h.as _ _ h1
  · unfold ltP at *
    by_cases c1 : b.1 = a.1
    · by_cases c2 : c.1 = b.1
      · rw [if_pos c1] at h1
        rw [if_pos c2] at h3
        rw [if_pos (c2.trans c1)]
        exact h2.tr _ _ _ h1 h3
      · rw [if_neg c2] at h3
        rw [if_neg (fun z => c2 (z.trans c1.symm)), ← c1]
        exact h3
    · rw [if_neg c1] at h1
      by_cases c2 : c.1 = b.1
      · rw [if_neg (fun z => c1 (c2.symm.trans z)), c2]
        exact h1
      · rw [if_neg c2] at h3
        have h4 := h.tr _ _ _ h1 h3
        rw [if_neg]
        · exact h4
        · intro z
          rw [z] at h3
          exact c1 (h.anti _ _ h1 h3)
  · unfold ltP at *
    by_cases c : a.1 = b.1
    · rw [if_pos c] at h1
      rw [if_pos c.symm] at h3
      exact Prod.ext c (h2.anti _ _ h1 h3)
    · rw [if_neg c] at h1
      rw [if_neg (fun z => c z.symm)] at h3
      exact absurd (h.anti _ _ h1 h3) c
theorem lo_pair (h : Lo enc lt) (h2 : Lo enc2 lt2) : Lo (fun p : α × β => PyData.tuple [enc p.1, enc2 p.2]) (ltP lt lt2) where
  lt_ := fun a b => by
    rw [PySem.W.dataLt_pair (h.al _ _) (h2.al _ _), h.ev, h2.ev, h.lt_, h2.lt_]
    unfold ltP
    by_cases c : a.1 = b.1
    · by_cases c2 : a.2 = b.2
      · simp [c, c2, h2.irr]
      · simp [c, c2]
    · simp [c]
  al := fun a b => by simp [PySem.W.alike, PySem.W.alikeAll, h.al, h2.al]
  ev := fun a b => (Cod.pair ⟨h.ev⟩ ⟨h2.ev⟩).eq a b
  as := (lo_pairO h h2).1
  tr := (lo_pairO h h2).2.1
  anti := (lo_pairO h h2).2.2
theorem lo_trip (h : Lo enc lt) (h2 : Lo enc2 lt2) (h3 : Lo enc3 lt3) : Lo (fun p : α × β × γ => PyData.tuple [enc p.1, enc2 p.2.1, enc3 p.2.2]) (ltP lt (ltP lt2 lt3)) where
  lt_ := fun a b => by
    have e : PyProof.Rows.lexLt PyProof.Rows.itemOrd (PySem.W.keyToksAll []) (PySem.W.keyToksAll []) = false := PyProof.Rows.lex_irrefl _
    rw [PySem.W.dataLt_tuple, PySem.W.dataLt_cons (h.al _ _), PySem.W.dataLt_cons (h2.al _ _), PySem.W.dataLt_cons (h3.al _ _), h.ev, h2.ev, h3.ev, h.lt_, h2.lt_, h3.lt_, e]
    unfold ltP
    by_cases c : a.1 = b.1
    · by_cases c2 : a.2.1 = b.2.1
      · by_cases c3 : a.2.2 = b.2.2
        · simp [c, c2, c3, h3.irr]
        · simp [c, c2, c3]
      · simp [c, c2]
    · simp [c]
  al := fun a b => by simp [PySem.W.alike, PySem.W.alikeAll, h.al, h2.al, h3.al]
  ev := fun a b => (Cod.trip ⟨h.ev⟩ ⟨h2.ev⟩ ⟨h3.ev⟩).eq a b
  as := (lo_pairO h (lo_pair h2 h3)).1
  tr := (lo_pairO h (lo_pair h2 h3)).2.1
  anti := (lo_pairO h (lo_pair h2 h3)).2.2
def lexG (lt : α → α → Bool) : List α → List α → Bool
  | [], [] => false
  | [], _ :: _ => true
  | _ :: _, [] => false
  | x :: xs, y :: ys => if x = y then lexG lt xs ys else lt x y
theorem alike_row (h : Lo enc lt) : ∀ xs ys : List α, PySem.W.alikeAll (xs.map enc) (ys.map enc) = true
  | [], _ => by simp [PySem.W.alikeAll]
  | _ :: _, [] => by simp [PySem.W.alikeAll]
  | x :: xs, y :: ys => by
    show PySem.W.alikeAll (enc x :: xs.map enc) (enc y :: ys.map enc) = true
    rw [PySem.W.alikeAll, alike_row h xs ys, h.al]
    rfl
theorem row_lt (h : Lo enc lt) : ∀ xs ys : List α, PyProof.Rows.lexLt PyProof.Rows.itemOrd (PySem.W.keyToksAll (xs.map enc)) (PySem.W.keyToksAll (ys.map enc)) = lexG lt xs ys
  | [], [] => PyProof.Rows.lex_irrefl _
  | [], y :: ys => by
    show PyProof.Rows.lexLt PyProof.Rows.itemOrd (PySem.W.keyToksAll []) (PySem.W.keyToksAll (enc y :: ys.map enc)) = true
    rw [PySem.W.toks_all_cons]
    simp only [PySem.W.keyToksAll]
    rw [PyProof.Rows.lex_diff (O := PyProof.Rows.itemOrd) (by simp)]
    rfl
  | x :: xs, [] => by
    show PyProof.Rows.lexLt PyProof.Rows.itemOrd (PySem.W.keyToksAll (enc x :: xs.map enc)) (PySem.W.keyToksAll []) = false
    rw [PySem.W.toks_all_cons]
    simp only [PySem.W.keyToksAll]
    rw [PyProof.Rows.lex_diff (O := PyProof.Rows.itemOrd) (by simp)]
    rfl
  | x :: xs, y :: ys => by
    show PyProof.Rows.lexLt PyProof.Rows.itemOrd (PySem.W.keyToksAll (enc x :: xs.map enc)) (PySem.W.keyToksAll (enc y :: ys.map enc)) = _
    rw [PySem.W.dataLt_cons (h.al _ _), h.ev, h.lt_, row_lt h xs ys]
    by_cases c : x = y <;> simp [lexG, c]
theorem lexG_as (h : Lo enc lt) : ∀ a b : List α, lexG lt a b = true → lexG lt b a = false
  | [], [], e => by cases e
  | [], _ :: _, _ => rfl
  | _ :: _, [], e => by cases e
  | x :: xs, y :: ys, e => by
    unfold lexG at *
    by_cases c : x = y
    · rw [if_pos c] at e
      rw [if_pos c.symm]
      exact lexG_as h xs ys e
    · rw [if_neg c] at e
      rw [if_neg (fun z => c z.symm)]
      exact h.as _ _ e
theorem lexG_tr (h : Lo enc lt) : ∀ a b c : List α, lexG lt b a = false → lexG lt c b = false → lexG lt c a = false
  | [], b, c, _, _ => by cases c <;> rfl
  | x :: xs, [], c, e, _ => by cases e
  | x :: xs, y :: ys, [], _, e => by cases e
  | x :: xs, y :: ys, z :: zs, h1, h3 => by
    unfold lexG at *
    by_cases c1 : y = x
    · by_cases c2 : z = y
      · rw [if_pos c1] at h1
        rw [if_pos c2] at h3
        rw [if_pos (c2.trans c1)]
        exact lexG_tr h xs ys zs h1 h3
      · rw [if_neg c2] at h3
        rw [if_neg (fun q => c2 (q.trans c1.symm)), ← c1]
        exact h3
    · rw [if_neg c1] at h1
      by_cases c2 : z = y
      · rw [if_neg (fun q => c1 (c2.symm.trans q)), c2]
        exact h1
      · rw [if_neg c2] at h3
        have h4 := h.tr _ _ _ h1 h3
        rw [if_neg]
        · exact h4
        · intro q
          rw [q] at h3
          exact c1 (h.anti _ _ h1 h3)
theorem lexG_anti (h : Lo enc lt) : ∀ a b : List α, lexG lt a b = false → lexG lt b a = false → a = b
  | [], [], _, _ => rfl
  | [], _ :: _, e, _ => by cases e
  | _ :: _, [], _, e => by cases e
  | x :: xs, y :: ys, h1, h3 => by
    unfold lexG at *
    by_cases c : x = y
    · rw [if_pos c] at h1
      rw [if_pos c.symm] at h3
      rw [c, lexG_anti h xs ys h1 h3]
    · rw [if_neg c] at h1
      rw [if_neg (fun z => c z.symm)] at h3
      exact absurd (h.anti _ _ h1 h3) c
theorem lo_row (h : Lo enc lt) : Lo (fun xs : List α => PyData.tuple (xs.map enc)) (lexG lt) where
  lt_ := fun a b => by rw [PySem.W.dataLt_tuple]; exact row_lt h a b
  al := fun a b => by
    show PySem.W.alike (.tuple (a.map enc)) (.tuple (b.map enc)) = true
    rw [PySem.W.alike]
    exact alike_row h a b
  ev := fun a b => (Cod.tup ⟨h.ev⟩).eq a b
  as := lexG_as h
  tr := lexG_tr h
  anti := lexG_anti h
theorem Lo.comap (h : Lo enc lt) {f : β → α} (hf : ∀ a b, f a = f b → a = b) : Lo (fun b => enc (f b)) (fun a b => lt (f a) (f b)) where
  lt_ := fun a b => h.lt_ _ _
  al := fun a b => h.al _ _
  ev := fun a b => by
    rw [h.ev]
    by_cases c : a = b
    · simp [c]
    · rw [decide_eq_false c, decide_eq_false (fun z => c (hf a b z))]
  as := fun a b => h.as _ _
  tr := fun a b c => h.tr _ _ _
  anti := fun a b h1 h2 => hf _ _ (h.anti _ _ h1 h2)
/-- how many, and the row -/
def encN (enc : α → D) (xs : List α) : D := .tuple [.int xs.length, .tuple (xs.map enc)]
def ltL (lt : α → α → Bool) (a b : List α) : Bool := ltP ltI (lexG lt) ((a.length : Int), a) ((b.length : Int), b)
theorem lo_N (h : Lo enc lt) : Lo (encN enc) (ltL lt) := (lo_pair lo_int (lo_row h)).comap (f := fun xs : List α => ((xs.length : Int), xs)) fun a b e => (Prod.mk.inj e).2
/-! ### sorted, the least -/
def srtL (lt : α → α → Bool) (xs : List α) : List α := xs.mergeSort fun a b => !lt b a
theorem Lo.srt (h : Lo enc lt) (xs : List α) : srt (xs.map enc) = (srtL lt xs).map enc := by
  rw [srt_map]
  have e : (fun a b : α => leD' (enc a) (enc b)) = fun a b => !lt b a := by
    funext a b
    unfold leD'
    rw [PySem.W.dataLe_eq, ← h.lt_]
    rfl
  rw [e]
  rfl
theorem srtL_mem {xs : List α} {a : α} : a ∈ srtL lt xs ↔ a ∈ xs := List.mem_mergeSort
theorem srtL_len (xs : List α) : (srtL lt xs).length = xs.length := List.length_mergeSort _
theorem srtL_perm (xs : List α) : (srtL lt xs).Perm xs := List.mergeSort_perm _ _
theorem Lo.total (h : Lo enc lt) (a b : α) : (!lt b a || !lt a b) = true := by
  cases q : lt a b with
  | false => simp
  | true => simp [h.as a b q]
theorem Lo.trB (h : Lo enc lt) (a b c : α) (h1 : (!lt b a) = true) (h2 : (!lt c b) = true) : (!lt c a) = true := by
  simp at *
  exact h.tr a b c h1 h2
theorem Lo.so (h : Lo enc lt) (xs : List α) : (srtL lt xs).Pairwise fun a b => lt b a = false := by
  have := List.pairwise_mergeSort (le := fun a b : α => !lt b a) h.trB (fun a b => h.total a b) xs
  exact this.imp fun h => by simpa using h
theorem Lo.uniq (h : Lo enc lt) : ∀ {xs ys : List α}, xs.Perm ys → xs.Pairwise (fun a b => lt b a = false) → ys.Pairwise (fun a b => lt b a = false) → xs = ys
  | [], ys, p, _, _ => by
    have := p.length_eq
    exact (List.eq_nil_of_length_eq_zero (by simpa using this.symm)).symm
  | x :: xs, [], p, _, _ => by
    have := p.length_eq
    simp at this
  | x :: xs, y :: ys, p, s1, s2 => by
    rw [List.pairwise_cons] at s1 s2
    have e : x = y := by
      have hx : x ∈ y :: ys := p.subset List.mem_cons_self
      have hy : y ∈ x :: xs := p.symm.subset List.mem_cons_self
      rcases List.mem_cons.mp hx with hx | hx
      · exact hx
      · rcases List.mem_cons.mp hy with hy | hy
        · exact hy.symm
        · exact h.anti x y (s2.1 x hx) (s1.1 y hy)
    subst e
    rw [Lo.uniq h (List.Perm.cons_inv p) s1.2 s2.2]
theorem Lo.srt_of (h : Lo enc lt) {xs ys : List α} (p : ys.Perm xs) (s : ys.Pairwise fun a b => lt b a = false) : srtL lt xs = ys := (h.uniq (p.trans (srtL_perm xs).symm) s (h.so xs)).symm
theorem Lo.head (h : Lo enc lt) {xs : List α} {r : α} (hr : r ∈ xs) (hm : ∀ t ∈ xs, lt t r = false) : ∃ rest, srtL lt xs = r :: rest := by
  have hs := h.so xs
  cases e : srtL lt xs with
  | nil => have := srtL_mem (lt := lt) |>.mpr hr; rw [e] at this; cases this
  | cons a rest =>
    rw [e, List.pairwise_cons] at hs
    have ha : a ∈ xs := srtL_mem.mp (by rw [e]; simp)
    have hr2 : r ∈ a :: rest := by rw [← e]; exact srtL_mem.mpr hr
    rcases List.mem_cons.mp hr2 with z | z
    · exact ⟨rest, by rw [z]⟩
    · exact ⟨rest, by rw [h.anti a r (hm a ha) (hs.1 r z)]⟩
theorem Lo.best (h : Lo enc lt) {xs : List α} {r : α} (hr : r ∈ xs) (hm : ∀ t ∈ xs, lt t r = false) : bestD false (xs.map enc) = enc r := by
  cases xs with
  | nil => cases hr
  | cons x xs =>
    show PySem.W.minD (enc x) (xs.map enc) = enc r
    rw [min_enc enc lt h.lt_]
    obtain ⟨h1, h2⟩ := fold_best lt h.tr h.as xs x
    rw [h.anti _ _ (h2 r hr) (hm _ h1) |>.symm]
theorem max_enc (h : Lo enc lt) : ∀ (xs : List α) (x : α), PySem.W.maxD (enc x) (xs.map enc) = enc (xs.foldl (fun a y => if lt a y then y else a) x)
  | [], x => rfl
  | z :: r, x => by
    show PySem.W.maxD (if PySem.W.dataLt (enc x) (enc z) = true then enc z else enc x) (r.map enc) = _
    rw [h.lt_]
    cases c : lt x z with
    | true => rw [if_pos rfl, max_enc h r z, List.foldl_cons, c]; rfl
    | false => rw [if_neg (by simp), max_enc h r x, List.foldl_cons, c]; rfl
theorem Lo.bestT (h : Lo enc lt) {xs : List α} {r : α} (hr : r ∈ xs) (hm : ∀ t ∈ xs, lt r t = false) : bestD true (xs.map enc) = enc r := by
  cases xs with
  | nil => cases hr
  | cons x xs =>
    show PySem.W.maxD (enc x) (xs.map enc) = enc r
    rw [max_enc h]
    obtain ⟨h1, h2⟩ := fold_best (fun a b => lt b a) (fun a b c h1 h2 => h.tr c b a h2 h1) (fun a b h1 => h.as b a h1) xs x
    rw [h.anti _ _ (hm _ h1) (h2 r hr)]
theorem Lo.alD (h : Lo enc lt) (xs : List α) : PySem.W.AllAlike (xs.map enc) := PySem.W.AllAlike.of h.al
/-- written things that may be sorted: all flat; pairs and such, or no tuples at all -/
theorem Lo.srtOk (h : Lo enc lt) {xs : List α} {n : Nat} (hf : ∀ x ∈ xs, flatD n (enc x) = true) (so : PySem.W.Sortable (xs.map enc)) (hn : n ≤ 60 := by decide) : SrtOk (xs.map enc) where
  lay := fun d hd => by
    obtain ⟨x, hx, rfl⟩ := List.mem_map.mp hd
    exact (flat_lay n _ (hf x hx)).1
  al := h.alD xs
  so := so
  dp := fun d hd => by
    obtain ⟨x, hx, rfl⟩ := List.mem_map.mp hd
    exact Nat.le_trans (flat_lay n _ (hf x hx)).2 hn
theorem Lo.bestOk (h : Lo enc lt) {xs : List α} {n : Nat} (ne : xs ≠ []) (hf : ∀ x ∈ xs, flatD n (enc x) = true) (hnn : ∀ x ∈ xs, enc x ≠ .none) (hn : n ≤ 60 := by decide) : BestOk (xs.map enc) where
  ne := by simpa using ne
  lay := fun d hd => by
    obtain ⟨x, hx, rfl⟩ := List.mem_map.mp hd
    exact (flat_lay n _ (hf x hx)).1
  al := ⟨h.alD xs, fun d hd => by
    obtain ⟨x, hx, rfl⟩ := List.mem_map.mp hd
    exact hnn x hx⟩
  dp := fun d hd => by
    obtain ⟨x, hx, rfl⟩ := List.mem_map.mp hd
    exact Nat.le_trans (flat_lay n _ (hf x hx)).2 hn
theorem Lo.best2 (h : Lo enc lt) {x z : α} {n : Nat} (hx : flatD n (enc x) = true) (hz : flatD n (enc z) = true) (nx : enc x ≠ .none) (nz : enc z ≠ .none) (hn : n ≤ 60 := by decide) : min2B (enc x) (enc z) = some (enc (if lt z x = true then z else x)) := by
  rw [min2B_eq ⟨(flat_lay n _ hx).1, (flat_lay n _ hz).1, ⟨fun a ha b hb => ?_, fun a ha => ?_⟩, Nat.le_trans (flat_lay n _ hx).2 hn, Nat.le_trans (flat_lay n _ hz).2 hn⟩, h.lt_]
  · cases lt z x <;> rfl
  · have ha' : a = enc x ∨ a = enc z := by simpa using ha
    have hb' : b = enc x ∨ b = enc z := by simpa using hb
    rcases ha' with rfl | rfl <;> rcases hb' with rfl | rfl <;> exact h.al _ _
  · have ha' : a = enc x ∨ a = enc z := by simpa using ha
    rcases ha' with rfl | rfl
    · exact nx
    · exact nz
/-! ### sets as rows -/
theorem cmbG_mem : ∀ (r : Nat) (xs ks : List α), ks ∈ Cb.cmb r xs ↔ ks.Sublist xs ∧ ks.length = r
  | 0, xs, ks => by
    have e : Cb.cmb 0 xs = [[]] := by cases xs <;> rfl
    rw [e, List.mem_singleton]
    constructor
    · rintro rfl
      exact ⟨List.nil_sublist _, rfl⟩
    · exact fun h => List.eq_nil_of_length_eq_zero h.2
  | r + 1, [], ks => by
    constructor
    · intro h; cases h
    · rintro ⟨h1, h2⟩
      rw [List.sublist_nil.mp h1] at h2
      cases h2
  | r + 1, x :: xs, ks => by
    show ks ∈ (Cb.cmb r xs).map (x :: ·) ++ Cb.cmb (r + 1) xs ↔ _
    rw [List.mem_append, List.mem_map, cmbG_mem (r + 1) xs ks]
    constructor
    · rintro (⟨t, h, rfl⟩ | ⟨h1, h2⟩)
      · obtain ⟨h1, h2⟩ := (cmbG_mem r xs t).mp h
        exact ⟨h1.cons_cons x, by rw [List.length_cons, h2]⟩
      · exact ⟨h1.cons x, h2⟩
    · rintro ⟨h1, h2⟩
      cases h1 with
      | cons _ h => exact .inr ⟨h, h2⟩
      | cons_cons _ h => exact .inl ⟨_, (cmbG_mem r xs _).mpr ⟨h, by simpa using h2⟩, rfl⟩
theorem cmbG_lex (h : Lo enc lt) : ∀ (r : Nat) {xs : List α}, xs.Pairwise (fun a b => lt a b = true) → (Cb.cmb r xs).Pairwise fun a b => lexG lt a b = true
  | 0, xs, _ => by
    have e : Cb.cmb 0 xs = [[]] := by cases xs <;> rfl
    rw [e]
    simp
  | r + 1, [], _ => .nil
  | r + 1, x :: xs, hs => by
    rw [List.pairwise_cons] at hs
    show ((Cb.cmb r xs).map (x :: ·) ++ Cb.cmb (r + 1) xs).Pairwise _
    rw [List.pairwise_append, List.pairwise_map]
    refine ⟨(cmbG_lex h r hs.2).imp fun q => ?_, cmbG_lex h (r + 1) hs.2, fun a ha b hb => ?_⟩
    · unfold lexG
      rw [if_pos rfl]
      exact q
    · obtain ⟨t, _, rfl⟩ := List.mem_map.mp ha
      obtain ⟨h1, h2⟩ := (cmbG_mem (r + 1) xs b).mp hb
      cases b with
      | nil => cases h2
      | cons y b =>
        have h3 := hs.1 y (h1.subset (by simp))
        unfold lexG
        rw [if_neg]
        · exact h3
        · intro z
          subst z
          rw [h.irr] at h3
          cases h3
/-- the first good row: fewest members first -/
def firstD (good : List α → Bool) (vs : List α) : Nat → Nat → Option (List α)
  | _, 0 => none
  | m, n + 1 => match (Cb.cmb m vs).find? good with
    | some s => some s
    | none => firstD good vs (m + 1) n
theorem firstD_some (h : Lo enc lt) {good : List α → Bool} {vs : List α} (hv : vs.Pairwise fun a b => lt a b = true) : ∀ (n m : Nat) (r : List α), firstD good vs m n = some r → r.Sublist vs ∧ good r = true ∧ r.length < m + n ∧ ∀ t, t.Sublist vs → good t = true → m ≤ t.length → ltL lt t r = false := by
  intro n
  induction n with
  | zero => intro m r e; cases e
  | succ n ih =>
    intro m r e
    unfold firstD at e
    cases q : (Cb.cmb m vs).find? good with
    | some s =>
      rw [q] at e
      cases e
      have hs := List.mem_of_find?_eq_some q
      have hg := List.find?_some q
      obtain ⟨h1, h2⟩ := (cmbG_mem m _ _).mp hs
      refine ⟨h1, hg, by omega, fun t ht hgt hm => ?_⟩
      unfold ltL ltP
      by_cases c : t.length = r.length
      · rw [if_pos (by show (t.length : Int) = r.length; omega)]
        have htm := (cmbG_mem m vs t).mpr ⟨ht, by omega⟩
        obtain ⟨as, bs, e, hno⟩ := (List.find?_eq_some_iff_append.mp q).2
        have hl := cmbG_lex h m hv
        rw [e] at hl htm
        rcases List.mem_append.mp htm with z | z
        · have := hno t z
          rw [hgt] at this
          cases this
        · rcases List.mem_cons.mp z with z | z
          · subst z
            exact (lo_row h).irr t
          · exact lexG_as h _ _ ((List.pairwise_cons.mp (List.pairwise_append.mp hl).2.1).1 t z)
      · rw [if_neg (by show ¬ (t.length : Int) = r.length; omega)]
        unfold ltI
        simp
        omega
    | none =>
      rw [q] at e
      obtain ⟨h1, h2, h4, h3⟩ := ih (m + 1) r e
      refine ⟨h1, h2, by omega, fun t ht hgt hm => ?_⟩
      by_cases c : t.length = m
      · have := List.find?_eq_none.mp q t ((cmbG_mem m vs t).mpr ⟨ht, c⟩)
        exact absurd hgt this
      · exact h3 t ht hgt (by omega)
theorem firstD_none {good : List α → Bool} {vs : List α} : ∀ (n m : Nat), firstD good vs m n = none → ∀ t, t.Sublist vs → m ≤ t.length → t.length < m + n → good t = false := by
  intro n
  induction n with
  | zero => intro m _ t _ h1 h2; omega
  | succ n ih =>
    intro m h t ht h1 h2
    unfold firstD at h
    cases q : (Cb.cmb m vs).find? good with
    | some s => rw [q] at h; cases h
    | none =>
      rw [q] at h
      by_cases c : t.length = m
      · have := List.find?_eq_none.mp q t ((cmbG_mem m vs t).mpr ⟨ht, c⟩)
        simpa using this
      · exact ih (m + 1) h t ht (by omega) (by omega)
theorem combD_enc (enc : α → D) (xs : List α) (r : Nat) : combD (xs.map enc) (r : Int) = (Cb.cmb r xs).map fun s => .tuple (s.map enc) := by
  unfold combD
  rw [Int.toNat_natCast, Cb.cmb_map, List.map_map]
  rfl
end
end Mi

namespace Mi
open PySem PySem.Spec L2
/-! ### index, count of a list or a tuple; dict(pairs) of a tuple -/
theorem re_plT {K : Fg} {y : Cy} {dr : Option Addr} {F H : Hp} {env : En} {σ : L2.St} (re : Re K y dr F env σ H) {a : Addr} {vs : List V} (h : PlT K F a vs) : PlT K H a vs := plT_mono re.rf.sub h
section
variable {X : Cx} {pins : List (Addr × Obj)} {σ : L2.St} {H : Hp} {s : Shared}
/-- a plain tuple in the heap -/
theorem plT_at (I : Inv X pins σ H s) {p : Addr} {vs : List V} (h : PlT X.G H p vs) : ∃ (o : Obj) (us : List Value) (n : Nat), s.heap.get? p = some o ∧ o.cls = .type "tuple" ∧ o.dict = none ∧ o.data = .seq us.toArray n ∧ Vals vs us ∧ us.length ≤ sizeLine := by
  rcases h with ⟨o, h, t1, t2⟩ | ⟨o, its, n, h1, ⟨t1, t2⟩, h3, h4, h5⟩
  · obtain ⟨e, hz, us, r, o2, e2, hc, n, hd⟩ := I.hok _ _ h
    rw [e] at e2
    cases e2
    exact ⟨o, us, n, e, t1, t2, hd, r, by rw [← r.length]; exact hz⟩
  · exact ⟨o, its.toList, n, I.kIn _ _ h1, t1, t2, by simpa using h3, h5, by simpa using h4⟩
theorem tyT_is (I : Inv X pins σ H s) {x : V} {v : Value} (r : RelV x v) {p : Addr} {vs : List V} (e : x = .ref p) (h : PlT X.G H p vs) : s.TypeIs v "tuple" ∧ ∀ a, v = .ref a → ∃ ob, s.heap.get? a = some ob ∧ ob.dict = none := by
  subst e
  cases r
  obtain ⟨o, us, n, h1, h2, h3, _⟩ := plT_at I h
  exact ⟨⟨o, h1, h2⟩, fun a e => by cases e; exact ⟨o, h1, h3⟩⟩
end
/-- a method of a list or a tuple -/
def tBM2 (K : Fg) (r1 r2 : V → List V → Hp → VK → Prop) (to : TE) (t : TA) : TE := fun σ H Q => to σ H fun x H1 =>
  (tyV K "list" x H1 ∧ t σ H1 fun xs H2 => r1 x xs H2 Q) ∨ ((∃ p vs, x = .ref p ∧ PlT K H1 p vs) ∧ t σ H1 fun xs H2 => r2 x xs H2 Q)
section
variable {X : Cx} {o e : Expr} {es : List Expr} {to : TE} {t : TA} {name : Str} {apos cpos : Pos} {id1 id2 : String} {r1 r2 : V → List V → Hp → VK → Prop}
open PyProof.Rows in
theorem pe_bm2 (s1 : Slot "list" name id1) (t1 : typeOf (.builtin id1) = pure (.type "method_descriptor")) (m1 : MtR X id1 r1) (s2 : Slot "tuple" name id2) (t2 : typeOf (.builtin id2) = pure (.type "method_descriptor")) (m2 : MtR X id2 r2) (ho : PE X o to) (ha : PA X (e :: es) t)
    (hbase : attributeBase o name X.env (eval o X.env) = eval o X.env := by rfl)
    (hfew : ((backTo cpos (starEach (e :: es) X.env)).all (fun x => !x.1) && (backToKw cpos (keywordEach [] X.env)).all (fun x => x.1.isSome)
      && decide ((e :: es).length + ([] : List Keyword).length + (if ([] : List Keyword).isEmpty then 0 else 1) < 30)) = true := by rfl)
    (hline : (apos.endLine == cpos.line) = true := by rfl) (hs : starEach (e :: es) X.env = (false, eval e X.env) :: starEach es X.env := by rfl) (hplain : (backTo cpos (starEach es X.env)).any (·.1) = false := by rfl) :
    PE X (.Call (.Attribute o name apos) (e :: es) [] cpos) (tBM2 X.G r1 r2 to t) := by
  refine ⟨fun pins s σ H Q I h => ?_⟩
  have go : ∀ {id : String} {r : V → List V → Hp → VK → Prop} {H1 : Hp} {s1 : Shared} {x : V} {v : Value}, MtR X id r → Inv X pins σ H1 s1 → RelV x v → t σ H1 (fun xs H2 => r x xs H2 Q) → wpAny (model X.prog X.w) X.A (callWith cpos (.builtin id) [v] (backTo cpos (starEach (e :: es) X.env)) []) (EP X pins σ Q) X.xe s1 := by
    intro id r H1 s1 x v hm I1 rx q
    have hA := ha.run cpos pins s1 σ H1 _ I1 q
    rw [hs] at hA ⊢
    refine Calls.callWith_builtin (by show (false || (backTo cpos (starEach es X.env)).any (·.1)) = false; rw [hplain] <;> rfl) (Calls.evalArgs_plain ?_)
    exact thn hA fun us s2 ⟨vs, H2, I2, r2, q2⟩ => hm pins s2 σ H2 x vs v us Q I2 rx r2 q2
  refine wpAny_Call_method_late hbase hfew hline rfl (thn (ho.run pins s σ H _ I h) fun v sh ⟨x, H1, I1, rx, q⟩ => ?_)
  rcases q with ⟨ty, q⟩ | ⟨⟨p, vs, ex, pl⟩, q⟩
  · obtain ⟨h1, h2⟩ := tyV_is I1 rx ty
    exact ⟨"list", id1, PySem.F.plainAttrs_list, s1, t1, h1, h2, go m1 I1 rx q⟩
  · obtain ⟨h1, h2⟩ := tyT_is I1 rx ex pl
    exact ⟨"tuple", id2, PySem.F.plainAttrs_tuple, s2, t2, h1, h2, go m2 I1 rx q⟩
end
section
variable {X : Cx}
def rCntT (K : Fg) : V → List V → Hp → VK → Prop := fun x xs H Q => ∃ (a : Addr) (y : V) (d : D) (vs : List V) (ds : List D), x = V.ref a ∧ xs = [y] ∧ PlT K H a vs ∧ DpAll K H vs ds ∧ Dp K H y d ∧
  SeqAt.shaped (.list ds) = true ∧ SeqAt.shaped d = true ∧ Q (.int ((ds.countP fun z => PyData.eqv z d : Nat) : Int)) H
theorem mt_cntT (hu : X.A.units + 65 < cLine) : MtR X "tuple.count" (rCntT X.G) := by
  intro pins s σ H x xs v us Q I rx rxs h
  obtain ⟨a, y, d, vs, ds, rfl, rfl, pl, ha, hy, sl, sd, q⟩ := h
  cases rx
  obtain ⟨u, rfl, ru⟩ := vals1 rxs
  obtain ⟨bs, rb⟩ := Dp.reads I d y u hy ru
  obtain ⟨o, its, n, h1, h2, h3, h4, rv, hz⟩ := plT_at I pl
  obtain ⟨as, rs⟩ := Dp.readsAll I ds vs its ha rv
  exact SeqAt.count_tuple_data (vs := its.toArray) ⟨o, h1, h2, n, h4⟩ (by simpa using rs) rb (PyData.plainAll_of_canLay0 _ (SeqAt.canLay_of_shaped sl)) (PyData.plain_of_canLay0 _ (SeqAt.canLay_of_shaped sd)) (PyProof.Rows.room_in_shaped sd hu) ⟨.int _, H, I.tok _, ⟨_, rfl⟩, q⟩
def rIdxT (K : Fg) : V → List V → Hp → VK → Prop := fun x xs H Q => ∃ (a : Addr) (y : V) (d : D) (vs : List V) (ds : List D) (j : Nat), x = V.ref a ∧ xs = [y] ∧ PlT K H a vs ∧ DpAll K H vs ds ∧ Dp K H y d ∧
  SeqAt.shaped (.list ds) = true ∧ SeqAt.shaped d = true ∧ (ds.findIdx? fun z => PyData.eqv z d) = some j ∧ Q (.int (j : Nat)) H
theorem mt_idxT (hu : X.A.units + 65 < cLine) : MtR X "tuple.index" (rIdxT X.G) := by
  intro pins s σ H x xs v us Q I rx rxs h
  obtain ⟨a, y, d, vs, ds, j, rfl, rfl, pl, ha, hy, sl, sd, hj, q⟩ := h
  cases rx
  obtain ⟨u, rfl, ru⟩ := vals1 rxs
  obtain ⟨bs, rb⟩ := Dp.reads I d y u hy ru
  obtain ⟨⟨cls, dd, data, sls⟩, its, n, h1, h2, h3, h4, rv, hz⟩ := plT_at I pl
  simp only at h2 h3 h4
  subst h2 h3 h4
  obtain ⟨as, rs⟩ := Dp.readsAll I ds vs its ha rv
  have lay := SeqAt.canLay_of_shaped sl
  have rs' : ReadsAll s.heap its.toArray.toList ds as := by simpa using rs
  obtain ⟨hjl, hit, no⟩ := SeqAt.hit_at (d := d) (vs := its.toArray) rs' (PyData.plainAll_of_canLay0 _ lay) hj
  exact call_meets PySem.F.slot_tuple_index ⟨_, h1, rfl⟩ PySem.F.entry_tuple_index (PySem.F.args_tuple_index_2 _ _) (TI.tuple_indexAt a its.toArray n none sls u (fun z => PyData.eqv (SeqAt.readOf s.heap z) d) j hjl hit no)
    ⟨h1, SeqAt.items_eqAt (vs := its.toArray) rs' rb lay (SeqAt.canLay_of_shaped sd) (PyProof.Rows.room_in_shaped sd hu), ⟨.int (j : Nat), H, I.tok _, ⟨_, rfl⟩, q⟩⟩
/-- the pairs of a row of tuples, with the key objects -/
theorem pairs_of2 {pins : List (Addr × Obj)} {σ : L2.St} {H : Hp} {s : Shared} (I : Inv X pins σ H s) : ∀ {ps : List Addr} {kws : List (Key × V)}, Paired (fun p kv => SqT X.G H p [kV kv.1, kv.2]) ps kws →
    ∃ (prs : List (Key × Value)) (us : List (Value × Value)), KV kws prs ∧ us.length = ps.length ∧ prs.length = ps.length ∧ ∀ (j : Nat) (u v : Value), us[j]? = some (u, v) → ∃ c k, ps[j]? = some c ∧ s.heap.IsTuple c #[u, v] ∧ prs[j]? = some (k, v) ∧ keyIs k u = true
  | _, _, .nil => ⟨[], [], .nil, rfl, rfl, fun j u v e => by simp at e⟩
  | _, _, .cons (a := p) (b := kv) h t => by
    obtain ⟨prs, us, k1, k2, k3, k4⟩ := pairs_of2 I t
    obtain ⟨its, rv, ht, _⟩ := I.tuple h
    obtain ⟨u0, v0, e0, ru, rw0⟩ := vals2 rv
    subst e0
    refine ⟨(kv.1, v0) :: prs, (u0, v0) :: us, .cons ⟨rfl, rw0⟩ k1, by simp [k2], by simp [k3], fun j u v e => ?_⟩
    cases j with
    | zero =>
      simp only [List.getElem?_cons_zero, Option.some.injEq, Prod.mk.injEq] at e
      obtain ⟨rfl, rfl⟩ := e
      exact ⟨p, kv.1, rfl, ht, rfl, kV_is (P := X.prog) (w := X.w) ru⟩
    | succ j =>
      obtain ⟨c, k, e1, e2, e3, e4⟩ := k4 j u v (by simpa using e)
      exact ⟨c, k, by simpa using e1, e2, by simpa using e3, e4⟩
/-- dict(t), a tuple of pairs -/
theorem call_dictPT (hcalm : X.calm = true) : CallR X (.type "dict") (fun xs H Q => ∃ (a : Addr) (ps : List Addr) (kws : List (Key × V)), xs = [.ref a] ∧ PlT X.G H a (ps.map V.ref) ∧ Paired (fun p kv => SqT X.G H p [kV kv.1, kv.2]) ps kws ∧
    ∀ p, H p = none → Q (.ref p) (upd H p (.dK (mergeK [] kws)))) := by
  intro pins s σ H xs us Q I r q
  obtain ⟨a, ps, kws, rfl, pl, hp, q⟩ := q
  obtain ⟨u, rfl, rx⟩ := vals1 r
  cases rx
  obtain ⟨o, its, n, h1, h2, h3, h4, rv, hz⟩ := plT_at I pl
  have ei := refs_at rv
  subst ei
  rw [List.length_map] at hz
  obtain ⟨prs, us, k1, k2, k3, k4⟩ := pairs_of2 I hp
  have big : (s.heap.objs.size == sysModules) = false := beq_eq_false_iff_ne.mpr (Nat.ne_of_gt I.big)
  refine PySem.call_dict_pairs (knd := mixKind X.prog X.w) (kvs := prs) (PairArg.tuple a (ps.map Value.ref).toArray (fun j => ps.getD j 0) us) (I.ok.hd hcalm) ⟨⟨o, n, h1, h2, h3, h4⟩, by simp [k2], fun j k v e => ?_⟩ ⟨by omega, fun j k v e => ?_⟩ (by omega) fun h' tk hd hk => ?_
  · obtain ⟨c, k', e1, e2, e3, e4⟩ := k4 j k v e
    exact ⟨by simp [e1], .inl (by simpa [e1] using e2)⟩
  · obtain ⟨c, k', e1, e2, e3, e4⟩ := k4 j k v e
    exact ⟨k', e3, e4⟩
  · refine ⟨.ref s.heap.objs.size, upd H s.heap.objs.size (.dK (mergeK [] kws)), I.laid (t' := tk) (fun c o e => hk c o (by simp) e) (Nat.le_refl _) (show ObjOk X.prog X.w _ _ _ (.dK (mergeK [] kws)) from ⟨?_, big, merged [] prs, KV.merge k1 .nil, hd⟩), rfl, q _ (I.hok.fresh (Nat.le_refl _))⟩
    refine Nat.le_trans (length_mergeK kws []) ?_
    rw [List.length_nil, Nat.zero_add, k1.length, k3]
    exact hz
end
section
variable {X : Cx} {b b' : Bool} {a c : Expr} {ma mc : SE} {pos apos cpos : Pos}
def sIdx2 (ma mc : SE) : SE := fun env Q => ma env fun x => match x with
  | .list ds => mc env fun z => ob (idxL ds z) Q
  | .tuple ds => mc env fun z => ob (idxL ds z) Q
  | _ => False
def sCnt2 (ma mc : SE) : SE := fun env Q => ma env fun x => match x with
  | .list ds => mc env fun z => ob (cntL ds z) Q
  | .tuple ds => mc env fun z => ob (cntL ds z) Q
  | _ => False
@[simp] theorem u_sIdx2 {env : En} {Q : D → Prop} : sIdx2 ma mc env Q = (ma env fun x => match x with | .list ds => mc env fun z => ob (idxL ds z) Q | .tuple ds => mc env fun z => ob (idxL ds z) Q | _ => False) := rfl
@[simp] theorem u_sCnt2 {env : En} {Q : D → Prop} : sCnt2 ma mc env Q = (ma env fun x => match x with | .list ds => mc env fun z => ob (cntL ds z) Q | .tuple ds => mc env fun z => ob (cntL ds z) Q | _ => False) := rfl
theorem lay_tl {ds : List D} (h : SeqAt.shaped (.list ds) = true) : (PyData.tuple ds).canLay0 = true := by
  have := lay_shaped h
  simpa [PyData.canLay0] using this
theorem dp_tup {K : Fg} {H : Hp} {p : Addr} {vs : List V} {ds : List D} (h : Dp K H (.ref p) (.tuple ds)) (hs : SqT K H p vs) (hu : ∀ {us}, SqT K H p us → us = vs) : DpAll K H vs ds := by
  cases h with
  | tup h1 h2 => rw [← hu h1]; exact h2
theorem rvs_dpAll {K : Fg} {F : Hp} : ∀ {ds : List D} {vs : List V}, Rvs K F ds vs → PyData.canLayAll0 ds = true → DpAll K F vs ds
  | [], _, .nil, _ => .nil
  | d :: ds, _, .cons r t, h => by
    simp only [PyData.canLayAll0, Bool.and_eq_true] at h
    exact .cons (r.dp h.1) (rvs_dpAll t h.2)
theorem dpAll_mono {K : Fg} {F H : Hp} (h : Same F H) : ∀ {ds : List D} {vs : List V}, DpAll K F vs ds → DpAll K H vs ds
  | _, _, .nil => .nil
  | _, _, .cons r t => .cons (dp_mono h r) (dpAll_mono h t)
theorem me_idx2 (hu : X.A.units + 65 < cLine) (ha : ME X true a ma) (hc : ME X true c mc)
    (hbase : attributeBase a "index" X.env (eval a X.env) = eval a X.env := by rfl)
    (hfew : ((backTo cpos (starEach [c] X.env)).all (fun x => !x.1) && (backToKw cpos (keywordEach [] X.env)).all (fun x => x.1.isSome)
      && decide ([c].length + ([] : List Keyword).length + (if ([] : List Keyword).isEmpty then 0 else 1) < 30)) = true := by rfl)
    (hline : (apos.endLine == cpos.line) = true := by rfl) (hs : starEach [c] X.env = (false, eval c X.env) :: starEach [] X.env := by rfl) (hplain : (backTo cpos (starEach [] X.env)).any (·.1) = false := by rfl) :
    ME X b' (.Call (.Attribute a "index" apos) [c] [] cpos) (sIdx2 ma mc) := by
  refine ⟨⟨fun pins s σ H Q I h => (pe_bm2 PySem.F.slot_list_index PySem.F.type_list_index (mt_indexD hu) PySem.F.slot_tuple_index PySem.F.type_tuple_index (mt_idxT hu) ha.run (pa_cons hc.run pa_nil hs) hbase hfew hline hs hplain).run pins s σ H Q I ?_⟩,
    fun env P Q k h => ha.mono _ _ _ (fun d hd => by cases d <;> first | exact hc.mono _ _ _ (fun _ h2 => ob_mono k h2) hd | exact hd) h⟩
  obtain ⟨y, dr, F, env, re, hm⟩ := h
  refine ⟨y, dr, F, env, re, ha.mono _ _ _ (fun d hd v H1 F1 r1 s1 w1 => ?_) hm⟩
  cases d with
  | list ds =>
    obtain ⟨p, vs, rfl, h1, z1, rv⟩ := w1.list r1
    refine .inl ⟨.inl ⟨rfl, _, SqL.of h1⟩, y, dr, F1, env, r1, hc.mono _ _ _ (fun d2 h2 v2 H2 F2 r2 s2 w2 => ?_) hd⟩
    unfold idxL at h2
    by_cases c1 : SeqAt.shaped (.list ds) = true ∧ SeqAt.shaped d2 = true
    · rw [if_pos c1] at h2
      cases q : ds.findIdx? fun z => PyData.eqv z d2 with
      | none => rw [q] at h2; exact h2.elim
      | some j =>
        rw [q] at h2
        obtain ⟨hj, hp, hn⟩ := List.findIdx?_eq_some_iff_getElem.mp q
        refine ⟨p, v2, d2, ds, j, ds[j], rfl, rfl, (w1.mono s2).dp r2 (lay_shaped c1.1), w2.dp r2 (lay_shaped c1.2), c1.1, c1.2, by simp [hj], hp, fun m z' hm hz => ?_, h2 _ H2 F2 r2 (s1.trans s2) (.inl (.int _))⟩
        have hml : m < ds.length := by omega
        rw [List.getElem?_eq_getElem hml, Option.some.injEq] at hz
        rw [← hz]
        simpa using hn m hm
    · rw [if_neg c1] at h2; exact h2.elim
  | tuple ds =>
    obtain ⟨p, vs, rfl, h1, z1, rv⟩ := w1.tuple r1
    refine .inr ⟨⟨p, vs, rfl, re_plT r1 h1⟩, y, dr, F1, env, r1, hc.mono _ _ _ (fun d2 h2 v2 H2 F2 r2 s2 w2 => ?_) hd⟩
    unfold idxL at h2
    by_cases c1 : SeqAt.shaped (.list ds) = true ∧ SeqAt.shaped d2 = true
    · rw [if_pos c1] at h2
      cases q : ds.findIdx? fun z => PyData.eqv z d2 with
      | none => rw [q] at h2; exact h2.elim
      | some j =>
        rw [q] at h2
        exact ⟨p, v2, d2, vs, ds, j, rfl, rfl, re_plT r2 (plT_mono s2.f h1), dpAll_mono r2.rf.sub (rvs_dpAll (rv.mono s2.f) (SeqAt.canLay_of_shaped c1.1)), w2.dp r2 (lay_shaped c1.2), c1.1, c1.2, q, h2 _ H2 F2 r2 (s1.trans s2) (.inl (.int _))⟩
    · rw [if_neg c1] at h2; exact h2.elim
  | _ => exact hd.elim
theorem me_cnt2 (hu : X.A.units + 65 < cLine) (ha : ME X true a ma) (hc : ME X true c mc)
    (hbase : attributeBase a "count" X.env (eval a X.env) = eval a X.env := by rfl)
    (hfew : ((backTo cpos (starEach [c] X.env)).all (fun x => !x.1) && (backToKw cpos (keywordEach [] X.env)).all (fun x => x.1.isSome)
      && decide ([c].length + ([] : List Keyword).length + (if ([] : List Keyword).isEmpty then 0 else 1) < 30)) = true := by rfl)
    (hline : (apos.endLine == cpos.line) = true := by rfl) (hs : starEach [c] X.env = (false, eval c X.env) :: starEach [] X.env := by rfl) (hplain : (backTo cpos (starEach [] X.env)).any (·.1) = false := by rfl) :
    ME X b' (.Call (.Attribute a "count" apos) [c] [] cpos) (sCnt2 ma mc) := by
  refine ⟨⟨fun pins s σ H Q I h => (pe_bm2 PySem.F.slot_list_count PySem.F.type_list_count (mt_countD hu) PySem.F.slot_tuple_count PySem.F.type_tuple_count (mt_cntT hu) ha.run (pa_cons hc.run pa_nil hs) hbase hfew hline hs hplain).run pins s σ H Q I ?_⟩,
    fun env P Q k h => ha.mono _ _ _ (fun d hd => by cases d <;> first | exact hc.mono _ _ _ (fun _ h2 => ob_mono k h2) hd | exact hd) h⟩
  obtain ⟨y, dr, F, env, re, hm⟩ := h
  refine ⟨y, dr, F, env, re, ha.mono _ _ _ (fun d hd v H1 F1 r1 s1 w1 => ?_) hm⟩
  cases d with
  | list ds =>
    obtain ⟨p, vs, rfl, h1, z1, rv⟩ := w1.list r1
    refine .inl ⟨.inl ⟨rfl, _, SqL.of h1⟩, y, dr, F1, env, r1, hc.mono _ _ _ (fun d2 h2 v2 H2 F2 r2 s2 w2 => ?_) hd⟩
    unfold cntL at h2
    by_cases c1 : SeqAt.shaped (.list ds) = true ∧ SeqAt.shaped d2 = true
    · rw [if_pos c1] at h2
      exact ⟨p, v2, d2, ds, rfl, rfl, (w1.mono s2).dp r2 (lay_shaped c1.1), w2.dp r2 (lay_shaped c1.2), c1.1, c1.2, h2 _ H2 F2 r2 (s1.trans s2) (.inl (.int _))⟩
    · rw [if_neg c1] at h2; exact h2.elim
  | tuple ds =>
    obtain ⟨p, vs, rfl, h1, z1, rv⟩ := w1.tuple r1
    refine .inr ⟨⟨p, vs, rfl, re_plT r1 h1⟩, y, dr, F1, env, r1, hc.mono _ _ _ (fun d2 h2 v2 H2 F2 r2 s2 w2 => ?_) hd⟩
    unfold cntL at h2
    by_cases c1 : SeqAt.shaped (.list ds) = true ∧ SeqAt.shaped d2 = true
    · rw [if_pos c1] at h2
      exact ⟨p, v2, d2, vs, ds, rfl, rfl, re_plT r2 (plT_mono s2.f h1), dpAll_mono r2.rf.sub (rvs_dpAll (rv.mono s2.f) (SeqAt.canLay_of_shaped c1.1)), w2.dp r2 (lay_shaped c1.2), c1.1, c1.2, h2 _ H2 F2 r2 (s1.trans s2) (.inl (.int _))⟩
    · rw [if_neg c1] at h2; exact h2.elim
  | _ => exact hd.elim
def sPairs2 (m : SE) : SK := fun env Q => m env fun d => match d with
  | .list xs => obK (pairsOf xs) fun kvs => Q (mergeG [] kvs)
  | .tuple xs => obK (pairsOf xs) fun kvs => Q (mergeG [] kvs)
  | _ => False
@[simp] theorem u_sPairs2 {m : SE} {env : En} {Q : List (Key × D) → Prop} : sPairs2 m env Q = (m env fun d => match d with
  | .list xs => obK (pairsOf xs) fun kvs => Q (mergeG [] kvs)
  | .tuple xs => obK (pairsOf xs) fun kvs => Q (mergeG [] kvs)
  | _ => False) := rfl
theorem mk_pairs2 {p : Pos} (hc : X.calm = true) (hg : Gl X "dict") (hm : X.mg "dict" = none) (ha : ME X true a ma) (he : starEach [a] X.env = (false, eval a X.env) :: starEach [] X.env := by rfl) (hpl : (backTo pos (starEach [] X.env)).any (·.1) = false := by rfl) :
    MK X (.Call (.Name "dict" p) [a] [] pos) (sPairs2 ma) := by
  refine ⟨⟨fun pins s σ H Q I hq => (pe_callTy (CallR.or (call_dictP hc) (call_dictPT hc)) hg hm (by decide +kernel) (pa_cons ha.run pa_nil he) (by decide) (by decide) he hpl).run pins s σ H Q I ?_⟩, fun env P Q k hp => ha.mono _ _ _ (fun d h1 => ?_) hp⟩
  · obtain ⟨y, dr, F, env, re, hm⟩ := hq
    refine ⟨y, dr, F, env, re, ha.mono _ _ _ (fun d1 h1 v1 H1 F1 r1 s1 w1 => ?_) hm⟩
    cases d1 with
    | list xs =>
      have h1 : obK (pairsOf xs) _ := h1
      cases q : pairsOf xs with
      | none => rw [q] at h1; exact h1.elim
      | some kvs =>
        rw [q] at h1
        obtain ⟨l, vs, rfl, hl, hz, rv, nd, _⟩ := w1.listD r1
        obtain ⟨ps, kws, rfl, h2, h3⟩ := pairs_rvs r1 q rv
        exact .inl ⟨l, ps, kws, rfl, SqL.of hl, h2, fun p2 hp2 => h1 p2 _ _ F1 (r1.grown hp2) (s1.trans (Ex.grown hp2)) (s1.none (r1.free hp2).nd hp2) upd_same (r1.free hp2) (rks_merge h3 .nil)⟩
    | tuple xs =>
      have h1 : obK (pairsOf xs) _ := h1
      cases q : pairsOf xs with
      | none => rw [q] at h1; exact h1.elim
      | some kvs =>
        rw [q] at h1
        obtain ⟨l, vs, rfl, hl, hz, rv⟩ := w1.tuple r1
        obtain ⟨ps, kws, rfl, h2, h3⟩ := pairs_rvs r1 q rv
        exact .inr ⟨l, ps, kws, rfl, re_plT r1 hl, h2, fun p2 hp2 => h1 p2 _ _ F1 (r1.grown hp2) (s1.trans (Ex.grown hp2)) (s1.none (r1.free hp2).nd hp2) upd_same (r1.free hp2) (rks_merge h3 .nil)⟩
    | _ => exact h1.elim
  · cases d with
    | list xs => exact obK_mono (fun kvs h => k _ h) h1
    | tuple xs => exact obK_mono (fun kvs h => k _ h) h1
    | _ => exact h1.elim
end
/-! ### an own dict locked while an expression is reckoned, the answer an atom -/
def sLockA (i : Nat) (m : SE) : SE := fun env Q => match gv env i with
  | .k kvs => m (env.set i (.v (lkD kvs))) fun d => atomD d = true ∧ Q d
  | _ => False
abbrev sVarK (i : Nat) : SE := sVar i
def lockK (s : Sl) (P : List (Key × D) → Prop) : Prop := match s with
  | .k kvs => P kvs
  | _ => False
@[simp] theorem lockK_k {kvs : List (Key × D)} {P : List (Key × D) → Prop} : lockK (.k kvs) P = P kvs := rfl
@[simp] theorem u_sLockA {i : Nat} {m : SE} {env : En} {Q : D → Prop} : sLockA i m env Q = lockK (gv env i) fun kvs => m (env.set i (.v (lkD kvs))) fun d => atomD d = true ∧ Q d := rfl
section
variable {X : Cx} {b b' : Bool}
theorem me_lockA {i : Nat} {e : Expr} {m : SE} (h : ME X b e m) : ME X b' e (sLockA i m) := by
  refine ⟨⟨fun pins s σ H Q I hq => ?_⟩, fun env P Q k hp => ?_⟩
  · obtain ⟨y, dr, F, env, re, hm⟩ := hq
    unfold sLockA at hm
    split at hm
    · rename_i kvs q0
      have q := gv_k q0
      obtain ⟨o, g1, p, kws, g2, g3, g4, g5⟩ := re.get q
      subst g2
      refine (pe_lock h.run).run pins s σ H Q I ⟨p, .dK kws, g3, trivial, fun od => ?_⟩
      have r1 := re.lock (od := od) q g1 g3 g4
      refine ⟨y, dr, _, _, r1, h.mono _ _ _ (fun d hd v H2 F2 r2 x w => ?_) hm⟩
      have fp : F2 p = some (.frz od (.dK kws)) := x.f _ _ upd_same
      obtain ⟨F3, f1, f2, f3, r3⟩ := re.unlock q g1 g3 g4 r2 x
      refine ⟨r2.rf.sub _ _ fp, hd.2 _ _ F3 r3 ⟨f1, fun c o e n => ?_⟩ (.inl ?_)⟩
      · by_cases nn : c = p
        · subst nn
          rw [g3] at e; cases e
          exact upd_same
        · rw [upd_ne nn]
          exact x.k c o (by rw [upd_ne nn]; exact e) n
      rcases w with w | ⟨_, j, s', e1, e2, e3⟩
      · exact w.atom hd.1
      · cases s' <;> cases e2 <;> cases hd.1
    · exact hm.elim
  · unfold sLockA at hp ⊢
    split at hp
    · exact h.mono _ _ _ (fun d hd => ⟨hd.1, k _ hd.2⟩) hp
    · exact hp
end
end Mi

namespace Mi
open PySem PySem.Spec L2
/-! ### sets of texts -/
open PySem.Froz in
/-- the payload of a set of the texts l, walked in some order -/
structure TxR (P : Program) (w : World) (D : SD) (l : List Str) : Prop where
  ok : TxOk P w D l
  ris : Ris D.2.2.place.toList
  led : w.params.followText "set-order" = true ∨ D.2.2.led = true
  nd : l.Nodup
section
open PySem.Froz
variable {P : Program} {w : World} {A : Around} {E : Value → Shared → Prop} {s : Shared}
theorem txR_add {D : SD} {l : List Str} {k : Str} (u : Tok) (F : TxR P w D l) (hk : k ∉ l) : TxR P w (addTx (hashStr w k) (.str k u) D) (k :: l) := by
  have tail : ∀ {ep : Nat} {es1 : Array (Int × Value)} {t2 : SetTable} {wd : Bool}, (Ris t2.place.toList → Ris (tailTx ep es1 t2 wd).2.2.place.toList) ∧ (t2.led = true → (tailTx ep es1 t2 wd).2.2.led = true) := fun {ep es1 t2 wd} => by
    unfold tailTx
    by_cases c : (!wd && t2.tooFull) = true
    · rw [if_pos c]
      exact ⟨fun _ => relayAll_ris _ _ _, fun h => (relayAll_led _ _ _).trans h⟩
    · rw [if_neg c]
      exact ⟨id, id⟩
  have off : ∀ (t : SetTable) (c : Bool), (if c = true then { t with plain := false } else t).place = t.place ∧ (if c = true then { t with plain := false } else t).led = t.led := fun t c => by
    cases c <;> exact ⟨rfl, rfl⟩
  refine ⟨add_ok u F.ok, ?_, ?_, List.nodup_cons.mpr ⟨hk, F.nd⟩⟩
  · refine tail.1 ?_
    rw [(off _ _).1]
    exact layNew_ris D.2.2 D.1 (hashStr w k) (.str k u) F.ris
  · refine F.led.imp id fun z => tail.2 ?_
    rw [(off _ _).2]
    exact (layNew_led D.2.2 D.1 (hashStr w k) (.str k u)).trans z
theorem add_same {a : Addr} {T : String} {D : SD} {l : List Str} {k : Str} {u : Tok} {Q : Bool → Shared → Prop} (ho : s.heap.get? a = some (sObj T D)) (F : TxOk P w D l) (hk : k ∈ l) (hb : l.length < scanBound) (h : Q false s) : wpAny (model P w) A (setAddHashed a (.str k u) (hashStr w k)) Q E s := by
  obtain ⟨es, ep, t⟩ := D
  have hd : (sObj T (es, ep, t)).data = .set es ep t := rfl
  have hf : t.fits es.size = true := F.fit
  have hel : ElemsOf (strKind P w) es.toList := F.el
  have hsz : es.size = l.length := F.sz
  have hb0 : es.size < scanBound := by omega
  have hkey : (strKind P w).is k (.str k u) = true := is_str k u
  unfold setAddHashed setAddHashedIn
  refine wpAny_holding (wpAny_bind (wpAny_setState_of ho hd hf ?_))
  dsimp only
  rw [byScan_of rfl hb0 hel]
  simp only [↓reduceIte]
  unfold setAddByScan
  refine wpAny_bind ?_
  refine wpAny_bind (wpAny_rule ?_)
  refine wpAny_bind (wpAny_setScan_of (knd := strKind P w) (k := k) hkey ho hd hf hel ?_)
  cases hr : List.findIdx? (fun e => (strKind P w).is k e.2) es.toList with
  | some j =>
    dsimp only
    exact wpAny_pure (wpAny_pure h)
  | none =>
    exfalso
    obtain ⟨e, he, hp⟩ := (F.mem k).mp hk
    have := List.findIdx?_eq_none_iff.mp hr e he
    rw [hp] at this
    cases this
end
open PySem.Froz in
def SetT (P : Program) (w : World) (h : Heap) (a : Addr) (ns : List Str) (c : Nat) : Prop := ∃ D l, h.get? a = some (sObj "set" D) ∧ TxR P w D l ∧ (∀ k, k ∈ l ↔ k ∈ ns) ∧ l.length = c
section
open PySem.Froz
variable {P : Program} {w : World} {A : Around} {E : Value → Shared → Prop} {s : Shared}
theorem SetT.at {h h' : Heap} {a : Addr} {ns : List Str} {c : Nat} (R : SetT P w h a ns c) (k : ∀ o, h.get? a = some o → h'.get? a = some o) : SetT P w h' a ns c := by
  obtain ⟨D, l, h1, h2⟩ := R
  exact ⟨D, l, k _ h1, h2⟩
theorem setT_new_at {h : Heap} {a : Addr} {ns : List Str} (ho : h.get? a = some (eSet w)) : SetT P w h a (ns.take 0) 0 :=
  ⟨(#[], 0, .fresh 0 0 (!w.params.followText "set-order")), [], ho, ⟨TxOk.nil rfl, List.Pairwise.nil, by
    show _ ∨ (!w.params.followText "set-order") = true
    cases w.params.followText "set-order"
    · exact .inr rfl
    · exact .inl rfl, List.nodup_nil⟩, fun k => by simp, rfl⟩
theorem set_update_txts {I : Addr} {fp wr : List Addr} {G : Array GenState → Array GenState → Prop} {n : Nat} {Pv : Nat → Value → Prop} {St : Nat → Shared → Prop} {R : Result → Shared → Prop}
    (W : WalksS P w A.in1 I fp wr G n Pv St) (S : Addr) (hSf : S ∉ fp) (ns : List Str) (hn : n = ns.length) (hb : ns.length + 1 < scanBound) (hval : ∀ i v, Pv i v → ∃ k t, ns[i]? = some k ∧ v = .str k t) :
    ∀ (k i : Nat) (s : Shared), n - i = k → i ≤ n → St i s → (∃ c, c ≤ i ∧ SetT P w s.heap S (ns.take i) c) →
      (∀ s' c, Moved (S :: wr) G s s' → c ≤ n → SetT P w s'.heap S ns c → R (.ok (.ret .none)) s') →
      codeAny (model P w) A (.builtin "set.update.loop" ⟨[.ref S, .ref I], []⟩) R s := by
  have hSw : S ∉ wr := fun h => hSf (W.sub _ h)
  have hsub : ∀ c ∈ wr, c ∈ S :: wr := fun c hc => List.mem_cons_of_mem _ hc
  intro m
  induction m with
  | zero =>
    intro i s hm hi hst ⟨c, hc, hS⟩ hR
    obtain rfl : i = n := by omega
    refine codeAny_builtin PyProof.Rows.F.entry_set_update_loop ?_
    rw [Around.under_plainId PyProof.Rows.F.plain_set_update_loop _]
    show wpAny _ A.in1 (pyNext (.ref I) >>= _) _ _ s
    refine wpAny_bind (W.done s _ _ hst fun s' hm' => ?_)
    show wpAny _ A.in1 (ret Value.none) _ _ s'
    rw [List.take_of_length_le (by omega)] at hS
    exact wpAny_pure (hR s' c (hm'.mono hsub) hc (hS.at fun o e => hm'.heap S o hSw e))
  | succ m ih =>
    intro i s hm hi hst ⟨c, hc, hS⟩ hR
    have hlt : i < n := by omega
    refine codeAny_builtin PyProof.Rows.F.entry_set_update_loop ?_
    rw [Around.under_plainId PyProof.Rows.F.plain_set_update_loop _]
    show wpAny _ A.in1 (pyNext (.ref I) >>= _) _ _ s
    refine wpAny_bind (W.item i s _ _ hlt hst fun v s' hP hst' hmv => ?_)
    obtain ⟨z, t, hz, rfl⟩ := hval i v hP
    obtain ⟨D, l, ho, F1, hmem, hlen⟩ := hS.at fun o e => hmv.heap S o hSw e
    have etk : ∀ k, k ∈ ns.take (i + 1) ↔ k ∈ ns.take i ∨ k = z := fun k => by
      rw [List.take_add_one, hz]
      simp [List.mem_append]
    show wpAny _ A.in1 (holding [Value.str z t] (setAdd S (.str z t)) >>= _) _ _ s'
    refine wpAny_bind (wpAny_holding ?_)
    unfold setAdd
    refine wpAny_holding ?_
    refine wpAny_bind ((strKind P w).pyHash (k := z) (is_str _ _) ?_)
    by_cases hk : z ∈ l
    · refine add_same (s := { s' with toks := s'.toks + 1 }) ho F1.ok hk (by omega) ?_
      refine wpAny_pure ⟨plainId_quiet PyProof.Rows.F.plain_set_update_loop _, ih (i + 1) _ (by omega) hlt (W.frame _ s' _ _ hst' (Nat.le_succ _) fun b hb o e => e) ⟨c, by omega, D, l, ho, F1, fun k => by rw [etk, ← hmem]; exact ⟨.inl, fun h => h.elim id fun e => e ▸ hk⟩, hlen⟩ fun s'' c2 hm'' hc'' hS'' => ?_⟩
      exact hR s'' c2 (Moved.trans W.gtrans ((hmv.mono hsub).then_heap (Nat.le_succ _) fun b o hb e => e) hm'') hc'' hS''
    · refine add_x (s := { s' with toks := s'.toks + 1 }) ho F1.ok hk (by omega) ?_
      have sb : Heap.SameBut S s'.heap (s'.heap.update S (fun _ => sObj "set" (addTx (hashStr w z) (.str z t) D))) := Heap.SameBut.update ..
      refine wpAny_pure ⟨plainId_quiet PyProof.Rows.F.plain_set_update_loop _, ih (i + 1) _ (by omega) hlt (W.frame _ s' _ _ hst' (Nat.le_succ _) fun b hb o e => ?_) ⟨c + 1, by omega, _, z :: l, get_upd _ ho rfl, txR_add t F1 hk, fun k => by rw [etk, ← hmem, List.mem_cons]; exact Or.comm, by rw [List.length_cons, hlen]⟩ fun s'' c2 hm'' hc'' hS'' => ?_⟩
      · rw [sb.2 b (fun h : b = S => hSf (by rw [← h]; exact hb))]; exact e
      · refine hR s'' c2 (Moved.trans W.gtrans ((hmv.mono hsub).then_heap (Nat.le_succ _) fun b o hb e => ?_) hm'') hc'' hS''
        rw [sb.2 b (fun h : b = S => hb (by rw [h]; exact List.mem_cons_self))]; exact e
end
open PyProof.Rows in
set_option maxHeartbeats 3200000 in
theorem set_listT {P : Program} {w : World} {A : Around} {E : Value → Shared → Prop} {s : Shared} {l : Addr} {its : Array Value} (ns : List Str) {Q : Value → Shared → Prop} (hh : A.handled = none) (hl : s.heap.IsList l its) (hi : StrsAre its.toList ns) (hb : ns.length + 1 < scanBound)
    (h : ∀ (h' : Heap) (tk c : Nat), SetT P w h' s.heap.objs.size ns c → c ≤ ns.length → (∀ b o, s.heap.get? b = some o → h'.get? b = some o) → Q (.ref s.heap.objs.size) { s with heap := h', toks := tk }) :
    wpAny (model P w) A (call (.type "set") [.ref l]) Q E s := by
  have hsz : its.size = ns.length := by
    rw [← hi.length, Array.length_toList]
  obtain ⟨c, tl, hmro⟩ := F.called_set.mro
  have m1 := F.called_set.made
  have m2 := F.called_set.sub
  have m3 := F.called_set.notType
  have m4 := F.called_set.canCreate
  have m5 := F.typeCall_set_1 (.ref l)
  apply wpAny_call
  apply codeAny_of_tree
  show wpAny _ _ (callAny (.type "set")
    _) _ _ _
  apply wpAny_pure
  refine ⟨Code.quiet_builtin _ (by decide +kernel), ?_⟩
  apply codeAny_builtin F.entry_type_call
  rw [Around.under_plain
    (weight_type_call_type "set" [.ref l] []) rfl]
  repeat (any_goals (first | assumption | wp_step))
  refine codeAny_mono (code_set_led1 (.ref l) (E := E) (Q₁ := fun obj s₁ => obj = .ref s.heap.objs.size ∧ s₁ = { s with heap := s.heap.push (eSet w) }) ⟨rfl, rfl⟩) ?_
  intro r s₁ hr
  cases r with
  | error e => exact hr
  | ok fl =>
    cases fl with
    | ret obj =>
      obtain ⟨rfl, rfl⟩ := hr
      have hS : (s.heap.push (eSet w)).get? s.heap.objs.size = some (eSet w) := Heap.get?_push_size _ rfl
      have hT : Shared.TypeIs { s with heap := s.heap.push (eSet w) } (.ref s.heap.objs.size) "set" := ⟨_, hS, rfl⟩
      have m6 := F.called_set.init.lookup
      have m7 := F.called_set.init.bind (.ref s.heap.objs.size)
      repeat (any_goals (first | assumption | wp_step))
      refine codeAny_mono (codeAny_call_builtin (R := wants (fun r s₂ => r = .none ∧ ∃ h' tk c, s₂ = { s with heap := h', toks := tk } ∧ SetT P w h' s.heap.objs.size ns c ∧ c ≤ ns.length ∧ (∀ b o, s.heap.get? b = some o → h'.get? b = some o)) E) F.called_set.init.plain F.entry_set_init (check_set_init_1 hT ?_)) ?_
      · obtain ⟨ol, hol, hcl, nl, hdl⟩ := hl
        obtain ⟨oc, od, odt, osl⟩ := ol
        simp only at hcl hdl
        subst hcl
        subst hdl
        have hl0 : (s.heap.push (eSet w)).get? l = some { cls := .type "list", dict := od, data := .seq its nl, slots := osl } := Heap.get?_push_of_some _ hol
        have n1 := F.sub_list_set
        have n2 := F.sub_list_frozenset
        have n3 : (Value.type "list" == Value.type "dict") = false := by decide
        have hl1 : (s.heap.push (eSet w)).IsList l its := ⟨_, hl0, rfl, nl, rfl⟩
        unfold Builtin.«set.__init__»
        unfold noKeywords
        unfold Builtin.Frozenset.updateFrom
        generalize hPI : pyIter = PI
        wp_walk
        subst hPI
        apply wpAny_pyIter_list hl1
        apply wpAny_bind
        apply wpAny_runValue
        have p1 : l < s.heap.objs.size := Heap.lt_size hol
        have p2 : A.in1.in1.in1.handled = none := by simp [hh]
        have p3 : (s.heap.push (eSet w)).objs.size = s.heap.objs.size + 1 := Heap.size_push ..
        have p4 : l ≠ (s.heap.push (eSet w)).objs.size := by rw [p3]; exact Nat.ne_of_lt (Nat.lt_succ_of_lt p1)
        have p5 : s.heap.objs.size ∉ [(s.heap.push (eSet w)).objs.size, l] := by
          rw [p3]
          intro z
          rcases List.mem_cons.mp z with z | z
          · exact Nat.ne_of_lt (Nat.lt_succ_self _) z
          · exact Nat.ne_of_gt p1 (List.mem_singleton.mp z)
        have p6 : ∀ (i : Nat) (v : Value), its[i]? = some v → ∃ k t, ns[i]? = some k ∧ v = .str k t := fun i v hv => by
          have hin : i < ns.length := by rw [← hsz]; exact (Array.getElem?_eq_some_iff.mp hv).1
          obtain ⟨y, t, e1, e2⟩ := StrsAre.item hi i v (by rw [Array.getElem?_toList]; exact hv)
          exact ⟨y, t, e2, e1⟩
        refine set_update_txts ((Walks.list p2 _ l p4 its).toS) s.heap.objs.size p5 ns hsz hb p6 (its.size - 0) 0 _ (by omega) (Nat.zero_le _) ⟨⟨_, Heap.get?_push_size _ rfl, rfl, rfl⟩, hl1.push _⟩ ⟨0, Nat.le_refl 0, setT_new_at (Heap.get?_push_of_some _ hS)⟩ ?_
        rintro ⟨h', g2, d', tk', os'⟩ c' hm hc' hS'
        have eg : g2 = s.gens := hm.gens
        have ed : d' = s.drawn := hm.drawn
        have eo : os' = s.os := hm.os
        subst eg ed eo
        show wpAny _ _ _ _ _ _
        apply wpAny_pure
        show wpAny _ _ (ret Value.none)
          _ _ _
        refine wpAny_pure ⟨rfl, h', tk', c', rfl, hS', by omega, fun b o e => ?_⟩
        have b0 : b < s.heap.objs.size := Heap.lt_size e
        refine hm.heap b o (fun z => ?_) (Heap.get?_push_of_some _ (Heap.get?_push_of_some _ e))
        rcases List.mem_cons.mp z with z | z
        · exact Nat.ne_of_lt b0 z
        · rw [p3] at z
          exact Nat.ne_of_lt (Nat.lt_succ_of_lt b0) (List.mem_singleton.mp z)
      · intro r₂ s₂ hr₂
        cases r₂ with
        | error e => exact hr₂
        | ok fl₂ =>
          cases fl₂ with
          | ret r =>
            obtain ⟨rfl, h', tk, c, rfl, hS', hc', hk'⟩ := hr₂
            repeat (any_goals (first | assumption | wp_step))
            exact h _ _ c hS' hc' hk'
          | _ => exact hr₂.elim
    | _ => exact hr.elim
end Mi

namespace Mi
open PySem PySem.Spec L2
/-! ### sorted(set(xs)) of texts -/
open PySem.Froz in
def SetTx (P : Program) (w : World) (a : Addr) (l : List Str) : HO := .ext fun h => ∃ D, h.get? a = some (sObj "set" D) ∧ TxR P w D l
theorem perm_sub : ∀ (l ks : List Str), l.Nodup → (∀ k ∈ l, k ∈ ks) → ks.length = l.length → ks.Perm l
  | [], ks, _, _, h => by rw [List.eq_nil_of_length_eq_zero h]
  | a :: l, ks, nd, hs, h => by
    obtain ⟨n1, n2⟩ := List.nodup_cons.mp nd
    have ha := hs a (by simp)
    refine (List.perm_cons_erase ha).trans (.cons a (perm_sub l (ks.erase a) n2 (fun k hk => ?_) ?_))
    · exact (List.mem_erase_of_ne fun z => n1 (by rw [← z]; exact hk)).mpr (hs k (List.mem_cons_of_mem _ hk))
    · rw [List.length_erase_of_mem ha, h]
      rfl
section
variable {X : Cx}
def rSetTx (X : Cx) : List V → Hp → VK → Prop := fun xs H Q => ∃ (a : Addr) (ns : List Str), xs = [.ref a] ∧ SqL X.G H a (ns.map V.str) ∧ ns.length ≤ 1000 ∧ ∀ p l, H p = none → l.Nodup → (∀ k, k ∈ l ↔ k ∈ ns) → l.length ≤ ns.length → Q (.ref p) (upd H p (SetTx X.prog X.w p l))
theorem strs_ex : ∀ vs : List Value, (∀ v ∈ vs, ∃ k t, v = Value.str k t) → ∃ ks, PyProof.Rows.StrsAre vs ks
  | [], _ => ⟨[], .nil⟩
  | v :: vs, h => by
    obtain ⟨k, t, rfl⟩ := h v (by simp)
    obtain ⟨ks, hk⟩ := strs_ex vs fun u hu => h u (List.mem_cons_of_mem _ hu)
    exact ⟨k :: ks, .cons k t hk⟩
theorem cr_setTx (hc : X.calm = true) : CallR X (.type "set") (rSetTx X) := by
  intro pins s σ H vs us Q I r h
  obtain ⟨a, ns, rfl, hs, hz, q⟩ := h
  obtain ⟨its, rv, hl, _⟩ := I.list hs
  rw [Vals.ref1 r]
  refine set_listT ns (I.ok.hd hc) hl.isList (by simpa using strsAre_of rv) (by unfold scanBound; omega) fun h' tk c R hc k => ?_
  obtain ⟨D, l, h1, h2, h3, h4⟩ := R
  refine ⟨.ref _, upd H s.heap.objs.size (SetTx X.prog X.w s.heap.objs.size l), I.laid (t' := tk) k (Nat.le_refl _) ?_, rfl, q _ l (I.hok.fresh (Nat.le_refl _)) h2.nd h3 (by omega)⟩
  exact ⟨⟨D, h1, h2⟩, ⟨_, h1⟩, fun g1 g2 ⟨D, e1, e2⟩ e => ⟨D, e _ e1, e2⟩⟩
def rSortTx (X : Cx) : List V → Hp → VK → Prop := fun xs H Q => ∃ (a : Addr) (l : List Str), xs = [.ref a] ∧ H a = some (SetTx X.prog X.w a l) ∧ l.length ≤ 1000 ∧ ∀ ys p, ys.Perm l → PyProof.Rows.sortedS ys = true → H p = none → Q (.ref p) (upd H p (.lst (ys.map V.str)))
open PySem.Froz in
theorem cr_sortTx (hcalm : X.calm = true) : CallR X (.builtin "sorted") (rSortTx X) := by
  intro pins s σ H xs us Q I r q
  obtain ⟨a, l, rfl, ha, hz, q⟩ := q
  obtain ⟨u, rfl, rx⟩ := vals1 r
  cases rx
  obtain ⟨⟨⟨es, ep, t⟩, ho, F⟩, _⟩ := I.hok a _ ha
  have hsz : es.size = l.length := F.ok.sz
  refine Calls.call_function_entry PyProof.Rows.kind_sorted PyProof.Rows.plain_sorted PyProof.Rows.entry_sorted (PyProof.Rows.args_sorted1 _) ?_
  unfold Builtin.«sorted»
  refine wpAny_bind (m := checkCount "sorted" 1 1 _) (wpAny_pure ?_)
  refine wpAny_bind (collect_set (A := X.A.in1) (I.ok.hd hcalm) ⟨_, ho, rfl, rfl⟩ F.ok.fit (by rw [hsz]; unfold scanBound; omega) F.ris F.led fun s1 vs k1 hz1 g1' o1 pm => ?_)
  have hvl : vs.length = l.length := by rw [pm.length_eq, List.length_map, Array.length_toList]; exact hsz
  obtain ⟨ks, hS⟩ : ∃ ks, PyProof.Rows.StrsAre vs ks := strs_ex vs fun v hv => by
    obtain ⟨e, he, rfl⟩ := List.mem_map.mp (pm.mem_iff.mp hv)
    obtain ⟨⟨k, hk, _⟩, _⟩ := F.ok.el e he
    obtain ⟨t', ev⟩ := Value.isStrOf_shape (x := k) (v := e.2) hk
    exact ⟨k, t', ev⟩
  have hkl : ks.length = l.length := by rw [← hS.len_eq]; exact hvl
  have hpk : ks.Perm l := perm_sub l ks F.nd (fun k hk => by
    obtain ⟨e, he, h1⟩ := (F.ok.mem k).mp hk
    obtain ⟨t', ev⟩ := Value.isStrOf_shape (x := k) (v := e.2) h1
    obtain ⟨j, hj⟩ := List.mem_iff_getElem?.mp (pm.mem_iff.mpr (List.mem_map_of_mem (f := (·.2)) he))
    obtain ⟨y, t2, e1, e2⟩ := PyProof.Rows.StrsAre.item hS j e.2 hj
    rw [ev] at e1
    cases e1
    exact List.mem_of_getElem? e2) hkl
  have hzl : vs.length ≤ sizeLine := by rw [hvl, sizeLine_eq]; omega
  refine wpAny_bind (wpAny_newList ?_ (by exact hzl))
  have hoL : (s1.heap.push (PyProof.Rows.seqObj "list" vs.toArray 0)).get? s1.heap.objs.size = some (PyProof.Rows.seqObj "list" vs.toArray 0) := Heap.get?_push_size _ rfl
  refine wpAny_bind (wpAny_holding (wpAny_call_entry PyProof.Rows.slot_list_sort ⟨_, hoL, rfl⟩ PyProof.Rows.entry_list_sort
    (PyProof.Rows.list_sort_treeKAny PyProof.Rows.strKind_oneLt (s := { s1 with heap := s1.heap.push (PyProof.Rows.seqObj "list" vs.toArray 0) }) hoL hS.keysOf (fun v₁ v₂ rest e => PyProof.Rows.keyKind_strs (by rw [← e]; exact hS)) hzl fun st' hp hs => ⟨_, rfl, ?_⟩)
    (PyProof.Rows.args_list_sort _)))
  obtain ⟨ys, g1, g2, g3⟩ := PyProof.Rows.sorted_out_str hS hp hs
  obtain ⟨c, hc⟩ := PyProof.Rows.sortedHeap_at (vs := vs) (out := (PyProof.Rows.arrOf st').map (·.2)) hoL
  have hlen : (ys.map V.str).length ≤ sizeLine := by rw [List.length_map, g2.length_eq, hkl, sizeLine_eq]; omega
  have k2 : ∀ b u, s.heap.get? b = some u → (PyProof.Rows.sortedHeap (s1.heap.push (PyProof.Rows.seqObj "list" vs.toArray 0)) s1.heap.objs.size vs ((PyProof.Rows.arrOf st').map (·.2))).get? b = some u := fun b u e => by
    have q := k1 b u e
    have hlt := Heap.lt_size q
    rw [PyProof.Rows.sortedHeap_old (Nat.ne_of_lt hlt) (by rw [PyProof.Rows.size_push']; exact Nat.lt_succ_of_lt hlt)]
    exact Heap.get?_push_of_some _ q
  have hn : H s1.heap.objs.size = none := I.hok.fresh hz1
  generalize hH : PyProof.Rows.sortedHeap (s1.heap.push (PyProof.Rows.seqObj "list" vs.toArray 0)) s1.heap.objs.size vs ((PyProof.Rows.arrOf st').map (·.2)) = hf at *
  have J : Inv X pins σ (upd H s1.heap.objs.size (.lst (ys.map V.str))) { s with heap := hf, gens := s1.gens, drawn := s1.drawn, toks := s1.toks } :=
    I.call (ch := []) (Un.laid k2 hz1 hn) (I.hok.laid k2 hz1 ⟨hlen, ((PyProof.Rows.arrOf st').map (·.2)).toList, c, vals_of_strs g1, by rw [Array.toArray_toList]; exact hc⟩) (by rw [g1']; exact I.bare) (fun _ z => nomatch z)
  have e : ({ s1 with heap := hf } : Shared) = { s with heap := hf, gens := s1.gens, drawn := s1.drawn, toks := s1.toks } := by
    cases s1
    cases s
    cases o1
    rfl
  refine wpAny_pure ⟨_, rfl, ?_⟩
  show EP X pins σ Q (.ref s1.heap.objs.size) ({ s1 with heap := hf } : Shared)
  rw [e]
  exact ⟨.ref s1.heap.objs.size, _, J, rfl, q ys _ (g2.trans hpk) g3 hn⟩
end
def strsOf : List D → Option (List Str)
  | [] => some []
  | .str s :: r => (strsOf r).map fun l => s :: l
  | _ :: _ => none
theorem strsOf_eq : ∀ {xs : List D} {ss : List Str}, strsOf xs = some ss → xs = dStrs ss
  | [], ss, h => by cases h; rfl
  | d :: xs, ss, h => by
    cases d with
    | str s =>
      have h : (strsOf xs).map (fun l => s :: l) = some ss := h
      cases q : strsOf xs with
      | none => rw [q] at h; cases h
      | some l =>
        rw [q] at h
        cases h
        rw [strsOf_eq q]
        rfl
    | _ => cases h
@[simp] theorem strsOf_map : ∀ ss : List Str, strsOf (dStrs ss) = some ss
  | [] => rfl
  | s :: ss => by
    show (strsOf (dStrs ss)).map (fun l => s :: l) = _
    rw [strsOf_map ss]
    rfl
def lsS : D → Option (List Str)
  | .list xs => strsOf xs
  | _ => none
theorem lsS_l (ss : List Str) : lsS (.list (dStrs ss)) = some ss := strsOf_map ss
theorem lsS_eq {d : D} {ss : List Str} (h : lsS d = some ss) : d = .list (dStrs ss) := by
  cases d with
  | list xs => rw [strsOf_eq h]
  | _ => cases h
def obS (o : Option (List Str)) (Q : List Str → Prop) : Prop := match o with
  | some d => Q d
  | none => False
@[simp] theorem obS_s {ss : List Str} {Q : List Str → Prop} : obS (some ss) Q = Q ss := rfl
theorem obS_mono {o : Option (List Str)} {P Q : List Str → Prop} (h : ∀ d, P d → Q d) (k : obS o P) : obS o Q := by
  cases o with
  | none => exact k
  | some d => exact h _ k
/-- each text once -/
def ddS : List Str → List Str
  | [] => []
  | a :: l => if a ∈ ddS l then ddS l else a :: ddS l
theorem ddS_mem : ∀ {l : List Str} {x : Str}, x ∈ ddS l ↔ x ∈ l
  | [], x => Iff.rfl
  | a :: l, x => by
    unfold ddS
    have ih := ddS_mem (l := l) (x := x)
    by_cases c : a ∈ ddS l
    · rw [if_pos c, ih, List.mem_cons]
      constructor
      · exact .inr
      · rintro (h | h)
        · rw [h]; exact ddS_mem.mp c
        · exact h
    · rw [if_neg c, List.mem_cons, List.mem_cons, ih]
theorem ddS_nd : ∀ l : List Str, (ddS l).Nodup
  | [] => List.nodup_nil
  | a :: l => by
    unfold ddS
    by_cases c : a ∈ ddS l
    · rw [if_pos c]; exact ddS_nd l
    · rw [if_neg c]; exact List.nodup_cons.mpr ⟨c, ddS_nd l⟩
theorem ddS_len : ∀ l : List Str, (ddS l).length ≤ l.length
  | [] => Nat.le_refl _
  | a :: l => by
    unfold ddS
    have := ddS_len l
    by_cases c : a ∈ ddS l
    · rw [if_pos c, List.length_cons]; omega
    · rw [if_neg c, List.length_cons, List.length_cons]; omega
theorem nodup_len {l ks : List Str} (h1 : l.Nodup) (h2 : ∀ k ∈ l, k ∈ ks) : l.length ≤ ks.length := by
  induction l generalizing ks with
  | nil => simp
  | cons a l ih =>
    obtain ⟨n1, n2⟩ := List.nodup_cons.mp h1
    have ha := h2 a (by simp)
    have := ih (ks := ks.erase a) n2 fun k hk => (List.mem_erase_of_ne fun z => n1 (by rw [← z]; exact hk)).mpr (h2 k (List.mem_cons_of_mem _ hk))
    rw [List.length_erase_of_mem ha] at this
    have := List.length_pos_of_mem ha
    rw [List.length_cons]
    omega
theorem ddS_perm {l ks : List Str} (h1 : l.Nodup) (h2 : ∀ k, k ∈ l ↔ k ∈ ks) : l.Perm (ddS ks) := by
  have a : (ddS ks).length ≤ l.length := nodup_len (ddS_nd ks) fun k hk => (h2 k).mpr (ddS_mem.mp hk)
  have c : l.length ≤ (ddS ks).length := nodup_len h1 fun k hk => ddS_mem.mpr ((h2 k).mp hk)
  exact perm_sub (ddS ks) l (ddS_nd ks) (fun k hk => (h2 k).mpr (ddS_mem.mp hk)) (by omega)
def ussort (ss : List Str) : List Str := ssort (ddS ss)
theorem ussort_mem {ss : List Str} {x : Str} : x ∈ ussort ss ↔ x ∈ ss := ((ssort_perm _).mem_iff).trans ddS_mem
theorem ussort_nd (ss : List Str) : (ussort ss).Nodup := (ssort_perm _).nodup_iff.mpr (ddS_nd ss)
theorem ussort_len (ss : List Str) : (ussort ss).length ≤ ss.length := by
  unfold ussort
  rw [(ssort_perm _).length_eq]
  exact ddS_len ss
def sSrtSetT (m : SE) : SL := fun env Q => m env fun d => obS (lsS d) fun ss => (ss.length ≤ 1000 ∧ ∀ s ∈ ss, s.length ≤ 16777216) ∧ Q (dStrs (ussort ss))
@[simp] theorem u_sSrtSetT {m : SE} {env : En} {Q : List D → Prop} : sSrtSetT m env Q = (m env fun d => obS (lsS d) fun ss => (ss.length ≤ 1000 ∧ ∀ s ∈ ss, s.length ≤ 16777216) ∧ Q (dStrs (ussort ss))) := rfl
theorem rvs_dStrs {K : Fg} {F : Hp} : ∀ {ss : List Str} {vs : List V}, Rvs K F (dStrs ss) vs → vs = ss.map V.str
  | [], _, h => by cases h; rfl
  | s :: ss, _, h => by
    cases h with
    | cons a t =>
      cases a
      rw [rvs_dStrs t]
      rfl
section
variable {X : Cx} {b b' : Bool} {a c e o : Expr} {ma mc me : SE} {pos apos cpos npos : Pos}
theorem mf_srtSetT {p p2 pos2 : Pos} (hc : X.calm = true) (hg : Gl X "sorted") (hm : X.mg "sorted" = none) (hg2 : Gl X "set") (hm2 : X.mg "set" = none) (ha : ME X true a ma) (he : starEach [a] X.env = (false, eval a X.env) :: starEach [] X.env := by rfl) (hpl : (backTo pos2 (starEach [] X.env)).any (·.1) = false := by rfl)
    (he2 : starEach [Expr.Call (.Name "set" p2) [a] [] pos2] X.env = (false, eval (Expr.Call (.Name "set" p2) [a] [] pos2) X.env) :: starEach [] X.env := by rfl) (hpl2 : (backTo pos (starEach [] X.env)).any (·.1) = false := by rfl) :
    MF X (.Call (.Name "sorted" p) [.Call (.Name "set" p2) [a] [] pos2] [] pos) (sSrtSetT ma) := by
  have p1 := pe_callTy (p := p2) (pos := pos2) (cr_setTx hc) hg2 hm2 (by decide +kernel) (pa_cons ha.run pa_nil he) (by decide) (by decide) he hpl
  refine ⟨⟨fun pins s σ H Q I hq => (pe_callB (cr_sortTx hc) hg hm (by decide +kernel) (pa_cons p1 pa_nil he2) (by decide) (by decide) he2 hpl2).run pins s σ H Q I ?_⟩, fun env P Q k hp => ha.mono _ _ _ (fun d h1 => obS_mono (fun ns h => ⟨h.1, k _ h.2⟩) h1) hp⟩
  obtain ⟨y, dr, F, env, re, hm⟩ := hq
  refine ⟨y, dr, F, env, re, ha.mono _ _ _ (fun d1 h1 v1 H1 F1 r1 s1 w1 => ?_) hm⟩
  cases q : lsS d1 with
  | none => rw [q] at h1; exact h1.elim
  | some ss =>
    rw [q] at h1
    obtain ⟨hl, h1⟩ := h1
    have e := lsS_eq q
    subst e
    obtain ⟨a1, vs, rfl, e1, z1, rv⟩ := w1.list r1
    rw [rvs_dStrs rv] at e1
    refine ⟨a1, ss, rfl, SqL.of e1, hl.1, fun p l hp nd hmem hll => ?_⟩
    refine ⟨p, l, rfl, upd_same, by omega, fun ys p' o1 o2 hp' => ?_⟩
    have ey : ys = ussort ss := ssort_uniq (o1.trans (ddS_perm nd hmem)) (sorted_so o2)
    subst ey
    have hz : (dStrs (ussort ss)).length ≤ sizeLine := by
      have := ussort_len ss
      unfold dStrs
      rw [List.length_map, sizeLine_eq]; omega
    exact new_lst (r1.grown hp) (s1.trans (Ex.grown hp)) hp' (rvs_strs fun s hs => by rw [sizeLine_eq]; exact hl.2 s (ussort_mem.mp hs)) hz h1
end
end Mi

namespace Mi
open PySem PySem.Spec L2
/-! ### one new list or another -/
def sIfL (t : SB) (ma mc : SL) : SL := fun env Q => t env fun k => if k = true then ma env Q else mc env Q
@[simp] theorem u_sIfL {t : SB} {ma mc : SL} {env : En} {Q : List D → Prop} : sIfL t ma mc env Q = (t env fun k => if k = true then ma env Q else mc env Q) := rfl
theorem mf_if {X : Cx} {t a c : Expr} {pos : Pos} {tt : SB} {ma mc : SL} (ht : MT X t tt) (ha : MF X a ma) (hc : MF X c mc) : MF X (.IfExp t a c pos) (sIfL tt ma mc) := by
  refine ⟨⟨fun pins s σ H Q I h => (pe_ifExp ht.run ha.run hc.run).run pins s σ H Q I ?_⟩, fun env P Q k h => ht.mono _ _ _ (fun d h1 => ?_) h⟩
  · obtain ⟨y, dr, F, env, re, hm⟩ := h
    refine ⟨y, dr, F, env, re, ht.mono _ _ _ (fun d hd H' F' r1 s1 => ?_) hm⟩
    cases d with
    | true =>
      rw [if_pos rfl] at hd ⊢
      exact ⟨y, dr, F', env, r1, ha.mono _ _ _ (fun xs h2 p vs H2 F2 r2 s2 e1 e2 e3 e4 => h2 p vs H2 F2 r2 (s1.trans s2) e1 e2 e3 e4) hd⟩
    | false =>
      rw [if_neg Bool.false_ne_true] at hd ⊢
      exact ⟨y, dr, F', env, r1, hc.mono _ _ _ (fun xs h2 p vs H2 F2 r2 s2 e1 e2 e3 e4 => h2 p vs H2 F2 r2 (s1.trans s2) e1 e2 e3 e4) hd⟩
  · cases d with
    | true => rw [if_pos rfl] at h1 ⊢; exact ha.mono _ _ _ k h1
    | false => rw [if_neg Bool.false_ne_true] at h1 ⊢; exact hc.mono _ _ _ k h1
end Mi

namespace Mi
open PySem PySem.Spec L2
/-! ### sorted(set(xs)) of a list or a tuple of texts -/
open PyProof.Rows in
set_option maxHeartbeats 3200000 in
theorem set_tupleT {P : Program} {w : World} {A : Around} {E : Value → Shared → Prop} {s : Shared} {l : Addr} {its : Array Value} (ns : List Str) {Q : Value → Shared → Prop} (hh : A.handled = none) (hl : s.heap.IsTuple l its) (hi : StrsAre its.toList ns) (hb : ns.length + 1 < scanBound)
    (h : ∀ (h' : Heap) (tk c : Nat), SetT P w h' s.heap.objs.size ns c → c ≤ ns.length → (∀ b o, s.heap.get? b = some o → h'.get? b = some o) → Q (.ref s.heap.objs.size) { s with heap := h', toks := tk }) :
    wpAny (model P w) A (call (.type "set") [.ref l]) Q E s := by
  have hsz : its.size = ns.length := by
    rw [← hi.length, Array.length_toList]
  obtain ⟨c, tl, hmro⟩ := F.called_set.mro
  have m1 := F.called_set.made
  have m2 := F.called_set.sub
  have m3 := F.called_set.notType
  have m4 := F.called_set.canCreate
  have m5 := F.typeCall_set_1 (.ref l)
  apply wpAny_call
  apply codeAny_of_tree
  show wpAny _ _ (callAny (.type "set")
    _) _ _ _
  apply wpAny_pure
  refine ⟨Code.quiet_builtin _ (by decide +kernel), ?_⟩
  apply codeAny_builtin F.entry_type_call
  rw [Around.under_plain
    (weight_type_call_type "set" [.ref l] []) rfl]
  repeat (any_goals (first | assumption | wp_step))
  refine codeAny_mono (code_set_led1 (.ref l) (E := E) (Q₁ := fun obj s₁ => obj = .ref s.heap.objs.size ∧ s₁ = { s with heap := s.heap.push (eSet w) }) ⟨rfl, rfl⟩) ?_
  intro r s₁ hr
  cases r with
  | error e => exact hr
  | ok fl =>
    cases fl with
    | ret obj =>
      obtain ⟨rfl, rfl⟩ := hr
      have hS : (s.heap.push (eSet w)).get? s.heap.objs.size = some (eSet w) := Heap.get?_push_size _ rfl
      have hT : Shared.TypeIs { s with heap := s.heap.push (eSet w) } (.ref s.heap.objs.size) "set" := ⟨_, hS, rfl⟩
      have m6 := F.called_set.init.lookup
      have m7 := F.called_set.init.bind (.ref s.heap.objs.size)
      repeat (any_goals (first | assumption | wp_step))
      refine codeAny_mono (codeAny_call_builtin (R := wants (fun r s₂ => r = .none ∧ ∃ h' tk c, s₂ = { s with heap := h', toks := tk } ∧ SetT P w h' s.heap.objs.size ns c ∧ c ≤ ns.length ∧ (∀ b o, s.heap.get? b = some o → h'.get? b = some o)) E) F.called_set.init.plain F.entry_set_init (check_set_init_1 hT ?_)) ?_
      · obtain ⟨ol, hol, hcl, nl, hdl⟩ := hl
        obtain ⟨oc, od, odt, osl⟩ := ol
        simp only at hcl hdl
        subst hcl
        subst hdl
        have hl0 : (s.heap.push (eSet w)).get? l = some { cls := .type "tuple", dict := od, data := .seq its nl, slots := osl } := Heap.get?_push_of_some _ hol
        have n1 := F.sub_tuple_set
        have n2 := F.sub_tuple_frozenset
        have n3 : (Value.type "tuple" == Value.type "dict") = false := by decide
        have hl1 : (s.heap.push (eSet w)).IsTuple l its := ⟨_, hl0, rfl, nl, rfl⟩
        unfold Builtin.«set.__init__»
        unfold noKeywords
        unfold Builtin.Frozenset.updateFrom
        generalize hPI : pyIter = PI
        wp_walk
        subst hPI
        apply wpAny_pyIter_tuple hl1
        apply wpAny_bind
        apply wpAny_runValue
        have p1 : l < s.heap.objs.size := Heap.lt_size hol
        have p2 : A.in1.in1.in1.handled = none := by simp [hh]
        have p3 : (s.heap.push (eSet w)).objs.size = s.heap.objs.size + 1 := Heap.size_push ..
        have p4 : l ≠ (s.heap.push (eSet w)).objs.size := by rw [p3]; exact Nat.ne_of_lt (Nat.lt_succ_of_lt p1)
        have p5 : s.heap.objs.size ∉ [(s.heap.push (eSet w)).objs.size, l] := by
          rw [p3]
          intro z
          rcases List.mem_cons.mp z with z | z
          · exact Nat.ne_of_lt (Nat.lt_succ_self _) z
          · exact Nat.ne_of_gt p1 (List.mem_singleton.mp z)
        have p6 : ∀ (i : Nat) (v : Value), its[i]? = some v → ∃ k t, ns[i]? = some k ∧ v = .str k t := fun i v hv => by
          have hin : i < ns.length := by rw [← hsz]; exact (Array.getElem?_eq_some_iff.mp hv).1
          obtain ⟨y, t, e1, e2⟩ := StrsAre.item hi i v (by rw [Array.getElem?_toList]; exact hv)
          exact ⟨y, t, e2, e1⟩
        refine set_update_txts ((Walks.tuple p2 _ l p4 its).toS) s.heap.objs.size p5 ns hsz hb p6 (its.size - 0) 0 _ (by omega) (Nat.zero_le _) ⟨⟨_, Heap.get?_push_size _ rfl, rfl, rfl⟩, hl1.push _⟩ ⟨0, Nat.le_refl 0, setT_new_at (Heap.get?_push_of_some _ hS)⟩ ?_
        rintro ⟨h', g2, d', tk', os'⟩ c' hm hc' hS'
        have eg : g2 = s.gens := hm.gens
        have ed : d' = s.drawn := hm.drawn
        have eo : os' = s.os := hm.os
        subst eg ed eo
        show wpAny _ _ _ _ _ _
        apply wpAny_pure
        show wpAny _ _ (ret Value.none)
          _ _ _
        refine wpAny_pure ⟨rfl, h', tk', c', rfl, hS', by omega, fun b o e => ?_⟩
        have b0 : b < s.heap.objs.size := Heap.lt_size e
        refine hm.heap b o (fun z => ?_) (Heap.get?_push_of_some _ (Heap.get?_push_of_some _ e))
        rcases List.mem_cons.mp z with z | z
        · exact Nat.ne_of_lt b0 z
        · rw [p3] at z
          exact Nat.ne_of_lt (Nat.lt_succ_of_lt b0) (List.mem_singleton.mp z)
      · intro r₂ s₂ hr₂
        cases r₂ with
        | error e => exact hr₂
        | ok fl₂ =>
          cases fl₂ with
          | ret r =>
            obtain ⟨rfl, h', tk, c, rfl, hS', hc', hk'⟩ := hr₂
            repeat (any_goals (first | assumption | wp_step))
            exact h _ _ c hS' hc' hk'
          | _ => exact hr₂.elim
    | _ => exact hr.elim

section
variable {X : Cx}
def rSetTx2 (X : Cx) : List V → Hp → VK → Prop := fun xs H Q => ∃ (a : Addr) (ns : List Str), xs = [.ref a] ∧ (SqL X.G H a (ns.map V.str) ∨ SqT X.G H a (ns.map V.str)) ∧ ns.length ≤ 1000 ∧ ∀ p l, H p = none → l.Nodup → (∀ k, k ∈ l ↔ k ∈ ns) → l.length ≤ ns.length → Q (.ref p) (upd H p (SetTx X.prog X.w p l))
theorem cr_setTx2 (hc : X.calm = true) : CallR X (.type "set") (rSetTx2 X) := by
  intro pins s σ H vs us Q I r h
  obtain ⟨a, ns, e, hs | hs, hz, q⟩ := h
  · exact cr_setTx hc pins s σ H vs us Q I r ⟨a, ns, e, hs, hz, q⟩
  subst e
  obtain ⟨its, rv, hl, _⟩ := I.tuple hs
  rw [Vals.ref1 r]
  refine set_tupleT ns (I.ok.hd hc) hl (by simpa using strsAre_of rv) (by unfold scanBound; omega) fun h' tk c R hc k => ?_
  obtain ⟨D, l, h1, h2, h3, h4⟩ := R
  refine ⟨.ref _, upd H s.heap.objs.size (SetTx X.prog X.w s.heap.objs.size l), I.laid (t' := tk) k (Nat.le_refl _) ?_, rfl, q _ l (I.hok.fresh (Nat.le_refl _)) h2.nd h3 (by omega)⟩
  exact ⟨⟨D, h1, h2⟩, ⟨_, h1⟩, fun g1 g2 ⟨D, e1, e2⟩ e => ⟨D, e _ e1, e2⟩⟩
end
def sqS (d : D) : Option (List Str) := match seqOf d with
  | some xs => strsOf xs
  | none => none
@[simp] theorem sqS_l (ss : List Str) : sqS (.list (dStrs ss)) = some ss := strsOf_map ss
@[simp] theorem sqS_t (ss : List Str) : sqS (.tuple (dStrs ss)) = some ss := strsOf_map ss
theorem sqS_eq {d : D} {ss : List Str} (h : sqS d = some ss) : seqOf d = some (dStrs ss) := by
  unfold sqS at h
  cases q : seqOf d with
  | none => rw [q] at h; cases h
  | some xs => rw [q] at h; rw [strsOf_eq h]
def sSrtSetU (m : SE) : SL := fun env Q => m env fun d => obS (sqS d) fun ss => (ss.length ≤ 1000 ∧ ∀ s ∈ ss, s.length ≤ 16777216) ∧ Q (dStrs (ussort ss))
@[simp] theorem u_sSrtSetU {m : SE} {env : En} {Q : List D → Prop} : sSrtSetU m env Q = (m env fun d => obS (sqS d) fun ss => (ss.length ≤ 1000 ∧ ∀ s ∈ ss, s.length ≤ 16777216) ∧ Q (dStrs (ussort ss))) := rfl
section
variable {X : Cx} {b b' : Bool} {a c e o : Expr} {ma mc me : SE} {pos apos cpos npos : Pos}
theorem mf_srtSetU {p p2 pos2 : Pos} (hc : X.calm = true) (hg : Gl X "sorted") (hm : X.mg "sorted" = none) (hg2 : Gl X "set") (hm2 : X.mg "set" = none) (ha : ME X true a ma) (he : starEach [a] X.env = (false, eval a X.env) :: starEach [] X.env := by rfl) (hpl : (backTo pos2 (starEach [] X.env)).any (·.1) = false := by rfl)
    (he2 : starEach [Expr.Call (.Name "set" p2) [a] [] pos2] X.env = (false, eval (Expr.Call (.Name "set" p2) [a] [] pos2) X.env) :: starEach [] X.env := by rfl) (hpl2 : (backTo pos (starEach [] X.env)).any (·.1) = false := by rfl) :
    MF X (.Call (.Name "sorted" p) [.Call (.Name "set" p2) [a] [] pos2] [] pos) (sSrtSetU ma) := by
  have p1 := pe_callTy (p := p2) (pos := pos2) (cr_setTx2 hc) hg2 hm2 (by decide +kernel) (pa_cons ha.run pa_nil he) (by decide) (by decide) he hpl
  refine ⟨⟨fun pins s σ H Q I hq => (pe_callB (cr_sortTx hc) hg hm (by decide +kernel) (pa_cons p1 pa_nil he2) (by decide) (by decide) he2 hpl2).run pins s σ H Q I ?_⟩, fun env P Q k hp => ha.mono _ _ _ (fun d h1 => obS_mono (fun ns h => ⟨h.1, k _ h.2⟩) h1) hp⟩
  obtain ⟨y, dr, F, env, re, hm⟩ := hq
  refine ⟨y, dr, F, env, re, ha.mono _ _ _ (fun d1 h1 v1 H1 F1 r1 s1 w1 => ?_) hm⟩
  cases q : sqS d1 with
  | none => rw [q] at h1; exact h1.elim
  | some ss =>
    rw [q] at h1
    obtain ⟨hl, h1⟩ := h1
    obtain ⟨a1, vs, rfl, e1, z1, rv⟩ := seq_of r1 w1 (sqS_eq q)
    rw [rvs_dStrs rv] at e1
    refine ⟨a1, ss, rfl, e1, hl.1, fun p l hp nd hmem hll => ?_⟩
    refine ⟨p, l, rfl, upd_same, by omega, fun ys p' o1 o2 hp' => ?_⟩
    have ey : ys = ussort ss := ssort_uniq (o1.trans (ddS_perm nd hmem)) (sorted_so o2)
    subst ey
    have hz : (dStrs (ussort ss)).length ≤ sizeLine := by
      have := ussort_len ss
      unfold dStrs
      rw [List.length_map, sizeLine_eq]; omega
    exact new_lst (r1.grown hp) (s1.trans (Ex.grown hp)) hp' (rvs_strs fun s hs => by rw [sizeLine_eq]; exact hl.2 s (ussort_mem.mp hs)) hz h1
end
/-! ### d == e, d != e: dicts with keys of numbers and texts, values laid in rows -/
def shpK (kvs : List (Key × D)) : Bool := kvs.all fun p => SeqAt.shaped p.2
def hitG (kws : List (Key × D)) (p : Key × D) : Bool := match getG kws p.1 with
  | some d => PyData.eqv p.2 d
  | none => false
def kdEq (kvs kws : List (Key × D)) : Bool := kvs.length == kws.length && kvs.all (hitG kws)
def eqK (neg : Bool) (x z : D) : Option D := (asLk x).bind fun kvs => (asLk z).bind fun kws => if (shpK kvs && shpK kws) = true then some (.bool (if neg then !kdEq kvs kws else kdEq kvs kws)) else none
@[simp] theorem eqK_lk {neg : Bool} {kvs kws : List (Key × D)} : eqK neg (lkD kvs) (lkD kws) = if (shpK kvs && shpK kws) = true then some (.bool (if neg then !kdEq kvs kws else kdEq kvs kws)) else none := by
  unfold eqK
  rw [asLk_lk, asLk_lk]
  rfl
def Dks (K : Fg) (H : Hp) (kws : List (Key × V)) (kvs : List (Key × D)) : Prop := Paired (fun (p : Key × V) (q : Key × D) => p.1 = q.1 ∧ Dp K H p.2 q.2 ∧ SeqAt.shaped q.2 = true) kws kvs
theorem dks_rks {K : Fg} {y : Cy} {dr : Option Addr} {F H : Hp} {env : En} {σ : L2.St} (re : Re K y dr F env σ H) : ∀ {kvs : List (Key × D)} {kws : List (Key × V)}, Rks K F (kdD kvs) kws → shpK kvs = true → Dks K H kws kvs
  | [], _, h, _ => by cases h; exact .nil
  | (k, d) :: r, kws, h, hs => by
    obtain ⟨k', v, vs, e, rfl, rv, h3⟩ := rks_inv h
    have e := kD_inj e
    subst e
    unfold shpK at hs
    rw [List.all_cons, Bool.and_eq_true] at hs
    exact .cons ⟨rfl, (show Vr K false F env σ d v from .inl rv).dp re (lay_shaped hs.1), hs.2 ▸ hs.1⟩ (dks_rks re h3 hs.2)
def rKq (neg : Bool) (K : Fg) : R2 := fun x y H Q => ∃ a b o o' ks ls A B, x = .ref a ∧ y = .ref b ∧ H a = some (.frz o (.dK ks)) ∧ H b = some (.frz o' (.dK ls)) ∧ Dks K H ks A ∧ Dks K H ls B ∧ Q (.bl (if neg then !kdEq A B else kdEq A B)) H
section
variable {X : Cx}
theorem dks_val {K : Fg} {H : Hp} (k : Key) : ∀ {ls : List (Key × V)} {B : List (Key × D)}, Dks K H ls B → (∃ v d, valV ls k = some v ∧ getG B k = some d ∧ Dp K H v d ∧ SeqAt.shaped d = true) ∨ (valV ls k = none ∧ getG B k = none) := by
  intro ls B h
  unfold Dks at h
  induction h with
  | nil => exact .inr ⟨rfl, rfl⟩
  | @cons p q ps qs h t ih =>
    obtain ⟨k1, v⟩ := p
    obtain ⟨k2, d⟩ := q
    obtain ⟨e, h2, h3⟩ := h
    have e : k1 = k2 := e
    subst e
    by_cases c : k1 = k
    · exact .inl ⟨v, d, by unfold valV; simp [c], by unfold getG; simp [c], h2, h3⟩
    · rcases ih with ⟨v', d', g1, g2, g3⟩ | ⟨g1, g2⟩
      · exact .inl ⟨v', d', by unfold valV at *; simp [c]; simpa using g1, by unfold getG at *; simp [c]; simpa using g2, g3⟩
      · exact .inr ⟨by unfold valV at *; simp [c]; simpa using g1, by unfold getG at *; simp [c]; simpa using g2⟩
theorem hits_kq {pins : List (Addr × Obj)} {σ : L2.St} {H : Hp} {s : Shared} (I : Inv X pins σ H s) (hu : X.A.units + 65 < cLine) {ls : List (Key × V)} {B : List (Key × D)} {vb : List (Key × Value)} (rb : KV ls vb) (hb : Dks X.G H ls B) :
    ∀ {ks : List (Key × V)} {A : List (Key × D)} {va : List (Key × Value)}, KV ks va → Dks X.G H ks A → PySem.W.KeqHits X.A.in1 s vb va (A.all (hitG B)) := by
  intro ks A va ra ha
  unfold KV at ra
  unfold Dks at ha
  induction ha generalizing va with
  | nil => cases ra; exact .nil
  | @cons p q ps qs h t ih =>
    cases ra with
    | @cons _ q' _ vs' h' t' =>
      obtain ⟨k1, v⟩ := p
      obtain ⟨k2, d⟩ := q
      obtain ⟨k3, u⟩ := q'
      obtain ⟨e1, h1⟩ := h'
      have e1 : k1 = k3 := e1
      obtain ⟨e2, h2, h3⟩ := h
      have e2 : k1 = k2 := e2
      subst e1 e2
      rw [List.all_cons]
      have rr := rb.val k1
      rcases dks_val k1 hb with ⟨v', d', g1, g2, g3, g4⟩ | ⟨g1, g2⟩
      · rw [g1] at rr
        obtain ⟨y, hy, ry⟩ := RelO.some_of rr
        have : hitG B (k1, d) = PyData.eqv d d' := by unfold hitG; simp only [g2]
        rw [this]
        obtain ⟨as, r1⟩ := Dp.reads I d v u h2 h1
        obtain ⟨bs, r2⟩ := Dp.reads I d' v' y g3 ry
        exact .hit hy (PySem.W.keq_at r1 r2 h3 g4 (by show X.A.units + 1 + 64 < cLine; omega)) (ih t')
      · rw [g1] at rr
        have : hitG B (k1, d) = false := by unfold hitG; simp only [g2]
        rw [this, Bool.false_and]
        refine .miss ?_
        cases q : valueAt vb k1 with
        | none => rfl
        | some y => rw [q] at rr; exact rr.elim
theorem op_kqE (hu : X.A.units + 65 < cLine) : OpR X (compareOp .Eq) (rKq false X.G) := by
  intro pins s σ H x y v u Q I rx ry h
  obtain ⟨a, b, o, o', ks, ls, A, B, rfl, rfl, ea, eb, ka, kb, q⟩ := h
  obtain rfl : v = Value.ref a := rx
  obtain rfl : u = Value.ref b := ry
  obtain ⟨_, _, ya, va, ra, da⟩ := (show ObjOk X.prog X.w H s.heap a (.frz o (.dK ks)) from I.hok a _ ea)
  obtain ⟨_, _, yb, vb, rb, db⟩ := (show ObjOk X.prog X.w H s.heap b (.frz o' (.dK ls)) from I.hok b _ eb)
  have e1 : va.length = A.length := by rw [← ra.length]; exact Paired.length ka
  have e2 : vb.length = B.length := by rw [← rb.length]; exact Paired.length kb
  exact PySem.W.keq_eq (knd := mixKind X.prog X.w) (r := A.all (hitG B)) ya yb da db (by omega) (fun _ => hits_kq I hu rb kb ra ka) (fin_bl I q (by rw [e1, e2]; rfl))
theorem op_kqN (hu : X.A.units + 65 < cLine) : OpR X (compareOp .NotEq) (rKq true X.G) := by
  intro pins s σ H x y v u Q I rx ry h
  obtain ⟨a, b, o, o', ks, ls, A, B, rfl, rfl, ea, eb, ka, kb, q⟩ := h
  obtain rfl : v = Value.ref a := rx
  obtain rfl : u = Value.ref b := ry
  obtain ⟨_, _, ya, va, ra, da⟩ := (show ObjOk X.prog X.w H s.heap a (.frz o (.dK ks)) from I.hok a _ ea)
  obtain ⟨_, _, yb, vb, rb, db⟩ := (show ObjOk X.prog X.w H s.heap b (.frz o' (.dK ls)) from I.hok b _ eb)
  have e1 : va.length = A.length := by rw [← ra.length]; exact Paired.length ka
  have e2 : vb.length = B.length := by rw [← rb.length]; exact Paired.length kb
  exact PySem.W.keq_ne (knd := mixKind X.prog X.w) (r := A.all (hitG B)) ya yb da db (by omega) (fun _ => hits_kq I hu rb kb ra ka) (fin_bl I q (by rw [e1, e2]; rfl))
theorem ok_kq {b neg : Bool} : Ok2 X b (eqK neg) (rKq neg X.G) := by
  intro y dr F env σ H d1 d2 d v1 v2 Q re w1 w2 e k
  unfold eqK at e
  cases q1 : asLk d1 with
  | none => rw [q1] at e; cases e
  | some kvs =>
    cases q2 : asLk d2 with
    | none => rw [q1, q2] at e; cases e
    | some kws =>
      rw [q1, q2] at e
      have e : (if (shpK kvs && shpK kws) = true then some (PyData.bool (if neg then !kdEq kvs kws else kdEq kvs kws)) else none) = some d := e
      split at e
      · rename_i c
        rw [Bool.and_eq_true] at c
        cases e
        obtain ⟨p, o, ks, rfl, e1, r1⟩ := w1.asLk re q1
        obtain ⟨p', o', ls, rfl, e2, r2⟩ := w2.asLk re q2
        exact ⟨p, p', o, o', ks, ls, kvs, kws, rfl, rfl, re.rf.sub _ _ e1, re.rf.sub _ _ e2, dks_rks re r1 c.1, dks_rks re r2 c.2, k _ H F re Ex.refl (.bl _)⟩
      · cases e
theorem c_kqE {b : Bool} (hu : X.A.units + 65 < cLine) : CmpOk X b .Eq (eqK false) := ⟨_, op_kqE hu, ok_kq⟩
theorem c_kqN {b : Bool} (hu : X.A.units + 65 < cLine) : CmpOk X b .NotEq (eqK true) := ⟨_, op_kqN hu, ok_kq⟩
end
end Mi

namespace Mi
open PySem PySem.Spec L2
/-! ### dicts with tuple keys -/
def getT (kvs : List (List Key × D)) (k : List Key) : Option D := (kvs.find? fun p => decide (p.1 = k)).map (·.2)
def putT (kvs : List (List Key × D)) (k : List Key) (v : D) : List (List Key × D) :=
  if (kvs.any fun p => decide (p.1 = k)) = true then kvs.map (fun p => if p.1 = k then (p.1, v) else p) else kvs ++ [(k, v)]
def kysOf : List D → Option (List Key)
  | [] => some []
  | d :: r => (keyOf d).bind fun k => (kysOf r).map fun l => k :: l
def ktOf : D → Option (List Key)
  | .tuple ds => kysOf ds
  | _ => none
theorem kysOf_map : ∀ ks : List Key, kysOf (ks.map kD) = some ks
  | [] => rfl
  | k :: ks => by
    show (keyOf (kD k)).bind (fun k => (kysOf (ks.map kD)).map fun l => k :: l) = _
    rw [kysOf_map ks]
    cases k <;> rfl
theorem kysOf_eq : ∀ {ds : List D} {ks : List Key}, kysOf ds = some ks → ds = ks.map kD
  | [], ks, h => by cases h; rfl
  | d :: r, ks, h => by
    have h : (keyOf d).bind (fun k => (kysOf r).map fun l => k :: l) = some ks := h
    cases q : keyOf d with
    | none => rw [q] at h; cases h
    | some k =>
      rw [q] at h
      have h : (kysOf r).map (fun l => k :: l) = some ks := h
      cases q2 : kysOf r with
      | none => rw [q2] at h; cases h
      | some l =>
        rw [q2] at h
        cases h
        rw [keyOf_eq q, kysOf_eq q2]
        rfl
theorem ktOf_map (ks : List Key) : ktOf (.tuple (ks.map kD)) = some ks := kysOf_map ks
theorem ktOf_eq {d : D} {ks : List Key} (h : ktOf d = some ks) : d = .tuple (ks.map kD) := by
  cases d with
  | tuple ds => rw [kysOf_eq h]
  | _ => cases h
theorem kDs_inj {a b : List Key} (h : a.map kD = b.map kD) : a = b := by
  have := kysOf_map a
  rw [h, kysOf_map b] at this
  exact (Option.some.inj this).symm
def asTs : List (D × D) → Option (List (List Key × D))
  | [] => some []
  | (x, d) :: r => (ktOf x).bind fun k => (asTs r).map fun l => (k, d) :: l
def asT : D → Option (List (List Key × D))
  | .dict ((.none, .none) :: r) => asTs r
  | _ => none
theorem asTs_kt : ∀ kvs : List (List Key × D), asTs (ktD kvs) = some kvs
  | [] => rfl
  | (k, d) :: r => by
    show (ktOf (.tuple (k.map kD))).bind (fun k => (asTs (ktD r)).map fun l => (k, d) :: l) = _
    rw [ktOf_map, asTs_kt r]
    rfl
@[simp] theorem asT_m (kvs : List (List Key × D)) : asT (.dict (ktM kvs)) = some kvs := asTs_kt kvs
theorem asTs_eq : ∀ {xs : List (D × D)} {kvs : List (List Key × D)}, asTs xs = some kvs → xs = ktD kvs
  | [], kvs, h => by cases h; rfl
  | (x, d) :: r, kvs, h => by
    have h : (ktOf x).bind (fun k => (asTs r).map fun l => (k, d) :: l) = some kvs := h
    cases q : ktOf x with
    | none => rw [q] at h; cases h
    | some k =>
      rw [q] at h
      have h : (asTs r).map (fun l => (k, d) :: l) = some kvs := h
      cases q2 : asTs r with
      | none => rw [q2] at h; cases h
      | some l =>
        rw [q2] at h
        cases h
        rw [ktOf_eq q, asTs_eq q2]
        rfl
theorem rkt_inv {K : Fg} {F : Hp} {k : List Key} {d : D} {ds : List (List Key × D)} {xs : TX} (h : Rkt K F (ktD ((k, d) :: ds)) xs) : ∃ b v u vs, xs = (k, b, u) :: vs ∧ PlT K F b (k.map kV) ∧ RelV v u ∧ Rv K F d v ∧ Rkt K F (ktD ds) vs := by
  have h : Rkt K F ((.tuple (k.map kD), d) :: ktD ds) xs := h
  generalize e : PyData.tuple (k.map kD) = x at h
  cases h with
  | cons a r c t =>
    have := kDs_inj (PyData.tuple.inj e)
    subst this
    exact ⟨_, _, _, _, rfl, a, r, c, t⟩
theorem rkt_len {K : Fg} {F : Hp} : ∀ {kvs : List (List Key × D)} {xs : TX}, Rkt K F (ktD kvs) xs → xs.length = kvs.length
  | [], _, h => by cases h; rfl
  | (k, d) :: r, xs, h => by
    obtain ⟨b, v, u, vs, rfl, _, _, _, t⟩ := rkt_inv h
    rw [List.length_cons, List.length_cons, rkt_len t]
theorem rkt_pl {K : Fg} {F : Hp} : ∀ {kvs : List (List Key × D)} {xs : TX}, Rkt K F (ktD kvs) xs → ∀ x ∈ xs, PlT K F x.2.1 (x.1.map kV)
  | [], _, h => by cases h; exact fun _ h => nomatch h
  | (k, d) :: r, xs, h => by
    obtain ⟨b, v, u, vs, rfl, p, _, _, t⟩ := rkt_inv h
    intro x hx
    rcases List.mem_cons.mp hx with e | hx
    · rw [e]; exact p
    · exact rkt_pl t x hx
theorem rkt_get {K : Fg} {F : Hp} (k : List Key) : ∀ {kvs : List (List Key × D)} {xs : TX}, Rkt K F (ktD kvs) xs → (∃ d v b u, getT kvs k = some d ∧ atKey xs k = some (b, u) ∧ RelV v u ∧ Rv K F d v) ∨ (getT kvs k = none ∧ atKey xs k = none)
  | [], _, h => by cases h; exact .inr ⟨rfl, rfl⟩
  | (k', d) :: r, xs, h => by
    obtain ⟨b, v, u, vs, rfl, p, r1, r2, t⟩ := rkt_inv h
    by_cases c : k' = k
    · exact .inl ⟨d, v, b, u, by unfold getT; simp [c], by unfold atKey; simp [c], r1, r2⟩
    · have e1 : getT ((k', d) :: r) k = getT r k := by unfold getT; rw [List.find?_cons]; simp [c]
      have e2 : atKey ((k', b, u) :: vs) k = atKey vs k := by unfold atKey; rw [List.find?_cons]; simp [c]
      rw [e1, e2]
      exact rkt_get k t
theorem rkt_any {K : Fg} {F : Hp} (k : List Key) : ∀ {kvs : List (List Key × D)} {xs : TX}, Rkt K F (ktD kvs) xs → (atKey xs k).isSome = kvs.any fun p => decide (p.1 = k)
  | [], _, h => by cases h; rfl
  | (k', d) :: r, xs, h => by
    obtain ⟨b, v, u, vs, rfl, p, r1, r2, t⟩ := rkt_inv h
    rw [List.any_cons]
    by_cases c : k' = k
    · have : atKey ((k', b, u) :: vs) k = some (b, u) := by unfold atKey; simp [c]
      rw [this, decide_eq_true c]; rfl
    · have e2 : atKey ((k', b, u) :: vs) k = atKey vs k := by unfold atKey; rw [List.find?_cons]; simp [c]
      rw [e2, decide_eq_false c, Bool.false_or]
      exact rkt_any k t
theorem rkt_map {K : Fg} {F : Hp} {k : List Key} {d : D} {v : V} {u : Value} (r1 : RelV v u) (r2 : Rv K F d v) : ∀ {kvs : List (List Key × D)} {xs : TX}, Rkt K F (ktD kvs) xs → Rkt K F (ktD (kvs.map fun p => if p.1 = k then (p.1, d) else p)) (xs.map (putAt k u))
  | [], _, h => by cases h; exact .nil
  | (k', d') :: r, xs, h => by
    obtain ⟨b, v', u', vs, rfl, p, q1, q2, t⟩ := rkt_inv h
    have ih := rkt_map (k := k) r1 r2 t
    by_cases c : k' = k
    · have e1 : ((k', d') :: r).map (fun p => if p.1 = k then (p.1, d) else p) = (k', d) :: r.map fun p => if p.1 = k then (p.1, d) else p := by rw [List.map_cons, if_pos c]
      have e2 : ((k', b, u') :: vs).map (putAt k u) = (k', b, u) :: vs.map (putAt k u) := by rw [List.map_cons]; unfold putAt; rw [if_pos c]
      rw [e1, e2]
      exact .cons p r1 r2 ih
    · have e1 : ((k', d') :: r).map (fun p => if p.1 = k then (p.1, d) else p) = (k', d') :: r.map fun p => if p.1 = k then (p.1, d) else p := by rw [List.map_cons, if_neg c]
      have e2 : ((k', b, u') :: vs).map (putAt k u) = (k', b, u') :: vs.map (putAt k u) := by rw [List.map_cons]; unfold putAt; rw [if_neg c]
      rw [e1, e2]
      exact .cons p q1 q2 ih
theorem rkt_app {K : Fg} {F : Hp} {k : List Key} {d : D} {v : V} {u : Value} {b : Addr} (hp : PlT K F b (k.map kV)) (r1 : RelV v u) (r2 : Rv K F d v) : ∀ {kvs : List (List Key × D)} {xs : TX}, Rkt K F (ktD kvs) xs → Rkt K F (ktD (kvs ++ [(k, d)])) (xs ++ [(k, b, u)])
  | [], _, h => by cases h; exact .cons hp r1 r2 .nil
  | (k', d') :: r, xs, h => by
    obtain ⟨b', v', u', vs, rfl, p, q1, q2, t⟩ := rkt_inv h
    exact .cons p q1 q2 (rkt_app hp r1 r2 t)
theorem rkt_put {K : Fg} {F : Hp} {k : List Key} {d : D} {v : V} {u : Value} {b : Addr} (hp : PlT K F b (k.map kV)) (r1 : RelV v u) (r2 : Rv K F d v) {kvs : List (List Key × D)} {xs : TX} (h : Rkt K F (ktD kvs) xs) : Rkt K F (ktD (putT kvs k d)) (storedH xs k b u) := by
  unfold putT storedH
  rw [rkt_any k h]
  by_cases c : (kvs.any fun p => decide (p.1 = k)) = true
  · rw [if_pos c, if_pos c]; exact rkt_map r1 r2 h
  · rw [if_neg c, if_neg c]; exact rkt_app hp r1 r2 h
theorem Vr.asT {K : Fg} {b : Bool} {y : Cy} {dr : Option Addr} {F H : Hp} {env : En} {σ : L2.St} (re : Re K y dr F env σ H) {d : D} {kvs : List (List Key × D)} {v : V} (w : Vr K b F env σ d v) (h : asT d = some kvs) :
    ∃ a xs, v = .ref a ∧ Rd H a (TDo K.P K.w a xs) ∧ Rkt K F (ktD kvs) xs := by
  rcases w with w | ⟨_, i, s, e1, e2, e3⟩
  · cases w with
    | dit q r => rw [asTs_eq h] at r; exact ⟨_, _, rfl, rd_mono re.rf.sub q, r⟩
    | dic q r =>
      cases r with
      | nil => cases h
      | cons a b => rename_i k d ds v vs; cases k <;> cases h
    | dil q r => cases h
    | _ => cases h
  · obtain ⟨o, q1, q2⟩ := re.get e1
    cases s with
    | t zs =>
      cases e2
      obtain ⟨a, xs, h1, h2, h3, _⟩ := q2
      rw [e3] at q1; cases q1
      cases h1
      have : zs = kvs := by
        rw [asT_m] at h
        exact Option.some.inj h
      subst this
      exact ⟨a, xs, rfl, .inl h2, h3⟩
    | k zs =>
      cases e2
      cases zs with
      | nil => cases h
      | cons p r => obtain ⟨k, d⟩ := p; cases k <;> cases h
    | l zs => cases e2; cases h
    | _ => cases e2
/-- a value that is a tuple of keys: where it lies -/
theorem Vr.keyT {K : Fg} {b : Bool} {y : Cy} {dr : Option Addr} {F H : Hp} {env : En} {σ : L2.St} (re : Re K y dr F env σ H) {d : D} {ks : List Key} {v : V} (w : Vr K b F env σ d v) (h : ktOf d = some ks) : ∃ a, v = .ref a ∧ PlT K F a (ks.map kV) := by
  rw [ktOf_eq h] at w
  obtain ⟨a, vs, rfl, h1, z, r⟩ := w.tuple re
  have : ∀ {ks : List Key} {vs : List V}, Rvs K F (ks.map kD) vs → vs = ks.map kV := by
    intro ks
    induction ks with
    | nil => intro vs r; cases r; rfl
    | cons k ks ih =>
      intro vs r
      cases r with
      | cons a t =>
        rw [ih t]
        cases k with
        | inl i => cases a; rfl
        | inr s => cases a; rfl
  rw [this r] at h1
  exact ⟨a, rfl, h1⟩
section
variable {X : Cx} {pins : List (Addr × Obj)} {σ : L2.St} {H : Hp} {s : Shared}
theorem key_sq (I : Inv X pins σ H s) {b : Addr} {ks : List Key} (e : SqT X.G H b (ks.map kV)) : (tupleKind (mixKind X.prog X.w)).is s.heap ks b := by
  obtain ⟨its, r, ⟨o, h1, h2, n, h3⟩, _⟩ := I.tuple e
  exact ⟨o, its.toArray, n, h1, h2, h3, by simpa using items_are r⟩
theorem td_ok (I : Inv X pins σ H s) {a : Addr} {xs : TX} (e : Rd H a (TDo X.prog X.w a xs)) (hk : ∀ x ∈ xs, SqT X.G H x.2.1 (x.1.map kV)) : xs.length ≤ sizeLine ∧ (a == sysModules) = false ∧ s.heap.DictOfH (tupleKind (mixKind X.prog X.w)) a xs := by
  obtain ⟨⟨z, hd, o, es, ep, h1, h2, h3, h4, h5⟩, _⟩ := (show ObjOk X.prog X.w H s.heap a (TDo X.prog X.w a xs) from e.ok I.hok)
  exact ⟨z, hd, o, es, ep, h1, h2, h3, h4, fun x hx => key_sq I (hk x hx), h5⟩
theorem td_new {H' : Hp} {h' : Heap} {a : Addr} {xs : TX} (z : xs.length ≤ sizeLine) (hd : (a == sysModules) = false) (dd : h'.DictOfH (tupleKind (mixKind X.prog X.w)) a xs) : ObjOk X.prog X.w H' h' a (TDo X.prog X.w a xs) := by
  obtain ⟨o, es, ep, h1, h2, h3, h4, _, h5⟩ := dd
  exact ⟨⟨z, hd, o, es, ep, h1, h2, h3, h4, h5⟩, ⟨o, h1⟩, fun g1 g2 ⟨z, hd, o, es, ep, k1, k2⟩ e => ⟨z, hd, o, es, ep, e _ k1, k2⟩⟩
end
/-! ### {} taken for a dict with tuple keys -/
def tKT (P : Program) (w : World) (t : TS) : TS := fun E σ H => ∃ d, H d = some (.dK []) ∧ t E σ (upd H d (TDo P w d []))
theorem ps_kt {X : Cx} {st : Stmt} {t : TS} (h : PS X st t) : PS X st (tKT X.prog X.w t) := by
  refine ⟨fun pins s σ H D I hw => ?_⟩
  obtain ⟨d, hd, hw⟩ := hw
  obtain ⟨z, y, vs, rel, o, es, ep, h1, h2, h3, h4, h5, h6⟩ := (show ObjOk X.prog X.w H s.heap d (.dK []) from I.hok d _ hd)
  cases rel
  have h0 : es.toList = [] := by
    cases q : es.toList with
    | nil => rfl
    | cons a b => rw [q] at h5; cases h5
  have J : Inv X pins σ (upd H d (TDo X.prog X.w d [])) { s with heap := s.heap, toks := s.toks } := I.write (x := d) (e := d) (by rw [hd]; trivial) (.inl rfl) (fun _ _ _ e => e) ⟨o, h1⟩
    (td_new (Nat.zero_le _) y ⟨o, es, ep, h1, h2, h3, by rw [h0]; rfl, by simp, by simp⟩)
  exact h.run pins s σ _ D J hw
def ktE (i : Nat) (env : En) : En := match gv env i with
  | .k [] => env.set i (.t [])
  | _ => env
def sKT (i : Nat) (m : SS) : SS := fun K env => m K (ktE i env)
@[simp] theorem u_sKT {i : Nat} {m : SS} {K : Ks} {env : En} : sKT i m K env = m K (ktE i env) := rfl
theorem ms_kt {X : Cx} {st : Stmt} {m : SS} (i : Nat) (h : MS X st m) : MS X st (sKT i m) := by
  refine ⟨⟨fun pins s σ H E I hq => ?_⟩, fun a c env k hq => h.mono _ _ _ k hq⟩
  obtain ⟨y, dr, F, env, re, hm⟩ := hq
  have hm : m _ (ktE i env) := hm
  by_cases q0 : gv env i = .k []
  · have e0 : ktE i env = env.set i (.t []) := by unfold ktE; rw [q0]
    rw [e0] at hm
    have q := gv_k q0
    refine (ps_kt h.run).run pins s σ H E I ?_
    obtain ⟨o, g1, p, kws, g2, g3, g4, g5⟩ := re.get q
    subst g2
    have hz : kws = [] := List.eq_nil_of_length_eq_zero (by rw [rks_len g4]; rfl)
    subst hz
    have r2 : Re X.G y dr F (env.set i (.t [])) σ (upd H p (TDo X.prog X.w p [])) := re.setO q rfl rfl g1 fun z1 z2 z3 => ⟨p, [], rfl, upd_same, .nil, z1, z2, z3⟩
    exact ⟨p, g3, y, dr, F, _, r2, hm⟩
  · have e0 : ktE i env = env := by
      unfold ktE
      split
      · rename_i z; exact absurd z q0
      · rfl
    rw [e0] at hm
    exact h.run.run pins s σ H E I ⟨y, dr, F, env, re, hm⟩
/-! ### d[k], d[k] = v -/
def obT (o : Option (List (List Key × D))) (Q : List (List Key × D) → Prop) : Prop := match o with
  | some d => Q d
  | none => False
def obZ (o : Option (List Key)) (Q : List Key → Prop) : Prop := match o with
  | some d => Q d
  | none => False
theorem obT_mono {o : Option (List (List Key × D))} {P Q : List (List Key × D) → Prop} (h : ∀ d, P d → Q d) (k : obT o P) : obT o Q := by
  cases o with
  | none => exact k
  | some d => exact h _ k
theorem obZ_mono {o : Option (List Key)} {P Q : List Key → Prop} (h : ∀ d, P d → Q d) (k : obZ o P) : obZ o Q := by
  cases o with
  | none => exact k
  | some d => exact h _ k
@[simp] theorem obT_s {ns : List (List Key × D)} {Q : List (List Key × D) → Prop} : obT (some ns) Q = Q ns := rfl
@[simp] theorem obZ_s {k : List Key} {Q : List Key → Prop} : obZ (some k) Q = Q k := rfl
def TGet (X : Cx) (H : Hp) (a : Addr) (y : V) (r : Option (Addr × Value)) : Prop := ∃ xs k b, Rd H a (TDo X.prog X.w a xs) ∧ (∀ x ∈ xs, SqT X.G H x.2.1 (x.1.map kV)) ∧ y = .ref b ∧ SqT X.G H b (k.map kV) ∧ r = atKey xs k
section
variable {X : Cx} {o i e value : Expr} {pos pos' : Pos} {td ty tv : TE}
theorem pe_tget (hu : X.A.units + 1 < cLine) (ho : PE X o td) (hi : PE X i ty) (hs : NoSl i) : PE X (.Subscript o i pos) (fun σ H Q => td σ H fun x H1 => ty σ H1 fun y H2 => ∃ a b u v, x = .ref a ∧ TGet X H2 a y (some (b, u)) ∧ RelV v u ∧ Q v H2) := by
  refine ⟨fun pins s σ H Q I h => ?_⟩
  refine subD_of PySem.F.slot_dict_getitem.lookup hs (thn (ho.run pins s σ H _ I h) fun u s1 ⟨x, H1, I1, rx, q1⟩ => thn (hi.run pins s1 σ H1 _ I1 q1) fun iv s2 ⟨y, H2, I2, ry, a, b, v', v, ex, g, rv, q2⟩ => ?_)
  subst ex
  obtain rfl : u = Value.ref a := rx
  obtain ⟨xs, k, c, e1, e2, ey, e3, e4⟩ := g
  subst ey
  cases (show iv = Value.ref c from ry)
  obtain ⟨z, hd, dd⟩ := td_ok I2 e1 e2
  refine ⟨dd.typeIs, wpAny_getItem_heap (tupleKind_room_in1 hu) (key_sq I2 e3) dd e4.symm ?_⟩
  exact ⟨v, H2, I2.tok _, rv, q2⟩
theorem ps_tput (hu : X.A.units + 1 < cLine) (ho : PE X o td) (hi : PE X i ty) (hv : PE X value tv) (hs : swapsWith value (some (.Subscript o i pos')) pos.line X.env = pure false) :
    PS X (.Assign [.Subscript o i pos'] value pos) (fun D σ H => tv σ H fun v H1 => td σ H1 fun x H2 => ty σ H2 fun y H3 => ∃ a xs k b, x = .ref a ∧ H3 a = some (TDo X.prog X.w a xs) ∧ (∀ x ∈ xs, SqT X.G H3 x.2.1 (x.1.map kV)) ∧ y = .ref b ∧ SqT X.G H3 b (k.map kV) ∧ xs.length < sizeLine ∧
      ∀ u, RelV v u → D.nx σ (upd H3 a (TDo X.prog X.w a (storedH xs k b u)))) := by
  refine ⟨fun pins s σ H D I h => ?_⟩
  refine wpAny_Assign_Subscript (thn (hv.run pins s σ H _ I h) fun r s1 ⟨v, H1, I1, rv, q1⟩ => thn (ho.run pins s1 σ H1 _ I1 q1) fun u s2 ⟨x, H2, I2, rx, q2⟩ => thn (hi.run pins s2 σ H2 _ I2 q2) fun iv s3 ⟨y, H3, I3, ry, a, xs, k, b, ex, ea, ek, ey, eb, l, q3⟩ => ?_) hs
  subst ex ey
  obtain rfl : u = Value.ref a := rx
  cases (show iv = Value.ref b from ry)
  obtain ⟨z, hd, dd⟩ := td_ok I3 (.inl ea) ek
  refine wpAny_setItem_heap (hsz := z) (tupleKind_room_in1 hu) (key_sq I3 eb) dd fun h' dd' hs => ?_
  have hl : (storedH xs k b r).length ≤ sizeLine := by
    unfold storedH
    split
    · rw [List.length_map]; exact z
    · rw [List.length_append]; exact l
  have he : ∃ q, h'.get? a = some q := let ⟨q, _, _, hq, _⟩ := dd'; ⟨q, hq⟩
  exact ⟨σ, _, d_write I3 (by rw [ea]; exact True.intro) hs he (td_new hl hd dd'), q3 r rv⟩
end
def sTix (mo mi : SE) : SE := fun env Q => mo env fun x => obT (asT x) fun kvs => mi env fun z => obZ (ktOf z) fun k => ob (getT kvs k) Q
@[simp] theorem u_sTix {mo mi : SE} {env : En} {Q : D → Prop} : sTix mo mi env Q = (mo env fun x => obT (asT x) fun kvs => mi env fun z => obZ (ktOf z) fun k => ob (getT kvs k) Q) := rfl
def ownT (env : En) (i : Nat) (P : List (List Key × D) → Prop) : Prop := match gv env i with
  | .t kvs => P kvs
  | _ => False
theorem gv_t {env : En} {i : Nat} {kvs : List (List Key × D)} (h : gv env i = .t kvs) : env[i]? = some (.t kvs) := gv_some h (by simp)
theorem ownT_some {env : En} {i : Nat} {P : List (List Key × D) → Prop} (h : ownT env i P) : ∃ kvs, env[i]? = some (.t kvs) ∧ gv env i = .t kvs ∧ P kvs := by
  unfold ownT at h
  split at h
  · rename_i xs q
    exact ⟨xs, gv_t q, q, h⟩
  · exact h.elim
theorem ownT_mono {env : En} {i : Nat} {P Q : List (List Key × D) → Prop} (k : ∀ x, P x → Q x) (h : ownT env i P) : ownT env i Q := by
  obtain ⟨kvs, _, q, p⟩ := ownT_some h
  unfold ownT
  rw [q]
  exact k _ p
def sTput (i : Nat) (mi mv : SE) : SS := fun K env => ownT env i fun kvs => mv env fun d => mi env fun z => obZ (ktOf z) fun k => kvs.length < 16777216 ∧ K.nx (env.set i (.t (putT kvs k d)))
@[simp] theorem u_sTput {i : Nat} {mi mv : SE} {K : Ks} {env : En} : sTput i mi mv K env = (ownT env i fun kvs => mv env fun d => mi env fun z => obZ (ktOf z) fun k => kvs.length < 16777216 ∧ K.nx (env.set i (.t (putT kvs k d)))) := rfl
section
variable {X : Cx} {b b' : Bool} {a c e f o : Expr} {ma mc me mo mi mv : SE} {pos apos cpos npos : Pos}
theorem me_tix (hu : X.A.units + 65 < cLine) (ho : ME X true o mo) (hi : ME X true e mi) (hs : NoSl e := by intro _ _; rfl) : ME X b' (.Subscript o e pos) (sTix mo mi) := by
  refine ⟨⟨fun pins s σ H Q I h => (pe_tget (hu1 hu) ho.run hi.run hs).run pins s σ H Q I ?_⟩, fun env P Q k h => ho.mono _ _ _ (fun d hd => obT_mono (fun kvs h1 => hi.mono _ _ _ (fun z hz => obZ_mono (fun q h2 => ob_mono k h2) hz) h1) hd) h⟩
  obtain ⟨y, dr, F, env, re, hm⟩ := h
  refine ⟨y, dr, F, env, re, ho.mono _ _ _ (fun d1 h1 v1 H1 F1 r1 s1 w1 => ?_) hm⟩
  cases q : asT d1 with
  | none => rw [q] at h1; exact h1.elim
  | some kvs =>
    rw [q] at h1
    refine ⟨y, dr, F1, env, r1, hi.mono _ _ _ (fun d2 h2 v2 H2 F2 r2 s2 w2 => ?_) h1⟩
    obtain ⟨p, xs, rfl, e1, e2⟩ := (w1.mono s2).asT r2 q
    cases q2 : ktOf d2 with
    | none => rw [q2] at h2; exact h2.elim
    | some k =>
      rw [q2] at h2
      obtain ⟨c, rfl, hc⟩ := w2.keyT r2 q2
      rcases rkt_get k e2 with ⟨d, v, b, u, g1, g2, g3, g4⟩ | ⟨g1, g2⟩
      · have h2 : ob (getT kvs k) _ := h2
        rw [g1] at h2
        exact ⟨p, b, u, v, rfl, ⟨xs, k, c, e1, fun x hx => re_tuple r2 (rkt_pl e2 x hx), rfl, re_tuple r2 hc, g2.symm⟩, g3, h2 _ H2 F2 r2 (s1.trans s2) (.inl g4)⟩
      · have h2 : ob (getT kvs k) _ := h2
        rw [g1] at h2; exact h2.elim
theorem ms_tput {i : Nat} {x : Str} {spos : Pos} (hu : X.A.units + 65 < cLine) (hn : PE X (.Name x npos) (tVar i)) (hi : ME X true c mi) (hv : ME X false e mv) (hs : swapsWith e (some (.Subscript (.Name x npos) c spos)) pos.line X.env = pure false := by rfl) :
    MS X (.Assign [.Subscript (.Name x npos) c spos] e pos) (sTput i mi mv) := by
  refine ⟨⟨fun pins s σ H E I h => (ps_tput (hu1 hu) hn hi.run hv.run hs).run pins s σ H E I ?_⟩, fun a c env k h => ownT_mono (fun kvs h1 => hv.mono _ _ _ (fun d hd => hi.mono _ _ _ (fun z hz => obZ_mono (fun q h2 => ⟨h2.1, k.nx _ h2.2⟩) hz) hd) h1) h⟩
  obtain ⟨y, dr, F, env, re, hm⟩ := h
  obtain ⟨kvs, q, _, hm⟩ := ownT_some hm
  refine ⟨y, dr, F, env, re, hv.mono _ _ _ (fun d hd v H1 F1 r1 s1 w => ?_) hm⟩
  obtain ⟨o, g1, p, kws, g2, g3, _⟩ := r1.get q
  subst g2
  refine ⟨.ref p, g1, y, dr, F1, env, r1, hi.mono _ _ _ (fun z hz v2 H2 F2 r2 s2 w2 => ?_) hd⟩
  cases q2 : ktOf z with
  | none => rw [q2] at hz; exact hz.elim
  | some k =>
    rw [q2] at hz
    obtain ⟨o', g1', p', kws', g2', g3', g4', g5'⟩ := r2.get q
    rw [g1] at g1'; cases g1'; cases g2'
    have hz : kvs.length < 16777216 ∧ _ := hz
    obtain ⟨c, rfl, hc⟩ := w2.keyT r2 q2
    refine ⟨p, kws', k, c, rfl, g3', fun x hx => re_tuple r2 (rkt_pl g4' x hx), rfl, re_tuple r2 hc, by rw [rkt_len g4', sizeLine_eq]; exact hz.1, fun u ru => ?_⟩
    refine hz.2 dr F2 σ _ (r2.setO q rfl rfl g1 fun z1 z2 z3 => ⟨p, _, rfl, upd_same, rkt_put hc ru (w.mono s2).rv g4', z1, z2, z3⟩) (s1.trans s2).f
end
end Mi

namespace Mi
open PySem PySem.Spec L2
/-! ### {'a': x, ..}: a dict written out, keys texts -/
theorem Re.updFree {K : Fg} {y : Cy} {dr : Option Addr} {F H : Hp} {env : En} {σ : L2.St} {p : Addr} {ob : HO} (re : Re K y dr F env σ H) (fr : Free y dr F env σ p) : Re K y dr F env σ (upd H p ob) := by
  refine ⟨⟨fun q u eq => ?_, re.rf.sup, re.rf.new, fun q u eq n => ?_, fun q hq => ?_, fun q hq => ?_, re.rf.drs, re.rf.drn⟩, re.len, fun j s o h1 h2 => ?_, re.sep⟩
  · have hq : q ≠ p := fun z => by rw [z, fr.nF] at eq; cases eq
    rw [upd_ne hq]; exact re.rf.sub q u eq
  · have hq : q ≠ p := fun z => by rw [z, fr.nH] at eq; cases eq
    rw [upd_ne hq]; exact re.rf.gr q u eq n
  · have hqD : q ≠ p := fun z => by rw [z, fr.nH] at hq; exact hq rfl
    rw [upd_ne hqD]; exact re.rf.dom q hq
  · obtain ⟨q1, q2⟩ := re.rf.drw q hq
    have hqD : q ≠ p := fun z => fr.nd (by rw [← z]; exact hq.symm)
    exact ⟨q1, q2.at (upd_ne hqD)⟩
  · refine (re.slot j s o h1 h2).keep (Same.refl _) fun q hq w => ?_
    obtain ⟨c', g1, _, g3, g4, _⟩ := (re.slot j s o h1 h2).there w
    rw [hq] at g1; cases g1
    have : q ≠ p := fun z => fr.no j s h1 w (by rw [h2, hq, z])
    exact ⟨upd_ne this, g3, g4⟩
def dispG : List (Str × SE) → En → (List (Key × D) → Prop) → Prop
  | [], _, Q => Q []
  | (s, m) :: r, env, Q => m env fun d => dispG r env fun kvs => Q ((.inr s, d) :: kvs)
def sDisp (ms : List (Str × SE)) : SK := fun env Q => dispG ms env fun kvs => Q (mergeG [] kvs)
@[simp] theorem u_sDisp {ms : List (Str × SE)} {env : En} {Q : List (Key × D) → Prop} : sDisp ms env Q = dispG ms env fun kvs => Q (mergeG [] kvs) := rfl
@[simp] theorem u_dispN {env : En} {Q : List (Key × D) → Prop} : dispG [] env Q = Q [] := rfl
@[simp] theorem u_dispC {s : Str} {m : SE} {r : List (Str × SE)} {env : En} {Q : List (Key × D) → Prop} : dispG ((s, m) :: r) env Q = m env fun d => dispG r env fun kvs => Q ((.inr s, d) :: kvs) := rfl
/-- the values of a display -/
inductive MVs (X : Cx) : List (Option Expr) → List Expr → List (Str × SE) → Prop
  | nil : MVs X [] [] []
  | cons {s : Str} {j : Nat} {kp : Pos} {v : Expr} {ks : List (Option Expr)} {vs : List Expr} {m : SE} {ms : List (Str × SE)} : s.length ≤ sizeLine → ME X false v m → MVs X ks vs ms → MVs X (some (.Constant (.str s) j kp) :: ks) (v :: vs) ((s, m) :: ms)
section
variable {X : Cx} {pos : Pos}
def trsOf (K : Fg) : List (Str × SE) → List (TE × TE)
  | [] => []
  | (s, m) :: r => (lE K true (sC (.str s)), lE K false m) :: trsOf K r
theorem disp_run {ks : List (Option Expr)} {vs : List Expr} {ms : List (Str × SE)} (h : MVs X ks vs ms) : PPs X pos ks vs (trsOf X.G ms) := by
  induction h with
  | nil => exact pps_nil
  | cons hs hv _ ih => exact pps_cons (me_str hs).run hv.run ih
theorem disp_mono {ks : List (Option Expr)} {vs : List Expr} {ms : List (Str × SE)} (h : MVs X ks vs ms) : ∀ env (P Q : List (Key × D) → Prop), (∀ d, P d → Q d) → dispG ms env P → dispG ms env Q := by
  induction h with
  | nil => exact fun env P Q k h => k _ h
  | cons hs hv _ ih => exact fun env P Q k h => hv.mono _ _ _ (fun d hd => ih _ _ _ (fun r hr => k _ hr) hd) h
theorem disp_len {ks : List (Option Expr)} {vs : List Expr} {ms : List (Str × SE)} (h : MVs X ks vs ms) : ∀ env (P : List (Key × D) → Prop), dispG ms env P → dispG ms env fun kvs => kvs.length = ks.length ∧ P kvs := by
  induction h with
  | nil => exact fun env P h => ⟨rfl, h⟩
  | cons hs hv ht ih => exact fun env P h => hv.mono _ _ _ (fun d hd => disp_mono ht _ _ _ (fun r hr => ⟨congrArg (· + 1) hr.1, hr.2⟩) (ih _ _ hd)) h
theorem disp_red {ks : List (Option Expr)} {vs : List Expr} {ms : List (Str × SE)} (h : MVs X ks vs ms) : ∀ {y : Cy} {dr : Option Addr} {F H : Hp} {env : En} {σ : L2.St} (re : Re X.G y dr F env σ H) {P : List (V × V) → Hp → Prop} {Q : List (Key × D) → Prop},
    (∀ kvs kws H' F', Q kvs → Re X.G y dr F' env σ H' → Ex dr F H F' H' → Rks X.G F' (kdD kvs) kws → P (kws.map fun kv => (kV kv.1, kv.2)) H') → dispG ms env Q → tPairs (trsOf X.G ms) σ H P := by
  induction h with
  | nil =>
    intro y dr F H env σ re P Q k hq
    exact k [] [] H F hq re Ex.refl .nil
  | cons hs hv ht ih =>
    intro y dr F H env σ re P Q k hq
    refine ⟨y, dr, F, env, re, fun v1 H1 F1 r1 s1 w1 => ?_⟩
    have e1 := w1.str.1
    refine ⟨y, dr, F1, env, r1, hv.mono _ _ _ (fun d hd v H2 F2 r2 s2 w2 => ?_) hq⟩
    refine ih r2 (fun kvs kws H3 F3 q3 r3 s3 rk => ?_) hd
    rw [e1]
    exact k _ ((.inr _, v) :: kws) H3 F3 q3 r3 ((s1.trans s2).trans s3) (.cons (w2.rv.mono s3.f) rk)
theorem mk_disp {ks : List (Option Expr)} {vs : List Expr} {ms : List (Str × SE)} (h : MVs X ks vs ms) (hall : ks.all (·.isSome) = true := by rfl) (hl : ks.length = vs.length := by rfl) (h0 : ks ≠ [] := by simp) (h15 : ks.length ≤ 15 := by decide) : MK X (.Dict ks vs pos) (sDisp ms) := by
  refine ⟨⟨fun pins s σ H Q I hq => (pe_disp (disp_run h) hall hl h0 h15).run pins s σ H Q I ?_⟩, fun env P Q k hp => disp_mono h _ _ _ (fun d hd => k _ hd) hp⟩
  obtain ⟨y, dr, F, env, re, hm⟩ := hq
  intro p hp
  have fr := re.free hp
  obtain ⟨y', ri, hin, out⟩ := (re.grown hp (o := .dK [])).keepAll
  refine disp_red h ri (fun kvs kws H' F' q r1 s1 rk => ?_) (disp_len h _ _ hm)
  have hp1 : H' p = some (.dK []) := s1.k p _ upd_same fr.nd
  have hlen : kws.length = kvs.length := rks_len rk
  obtain ⟨o1, o2, o3⟩ := out F' H' r1 s1.f
  have frF : F' p = none := o2 p fr.nF fr.no (by rw [upd_same]; simp)
  have fr' : Free y dr F' env σ p := ⟨frF, fr.nH, fr.nd, fr.no⟩
  refine ⟨hp1, kws, rfl, by rw [hlen, q.1]; exact h15, ?_⟩
  refine q.2 p (mergeK [] kws) _ F' (o1.updFree fr') ⟨s1.f, fun a u e n => ?_⟩ hp upd_same fr' (rks_merge rk .nil)
  have ha : a ≠ p := fun z => by rw [z, hp] at e; cases e
  rw [upd_ne ha]
  exact s1.k a u (by rw [upd_ne ha]; exact e) n
end
end Mi

namespace Mi
open PySem PySem.Spec L2
/-! ### dict([(k, v), ..]) with tuple keys -/
abbrev KAV := List (List Key × Addr × V)
def KvX (ds : KAV) (xs : TX) : Prop := Paired (fun (q : List Key × Addr × V) (x : List Key × Addr × Value) => x.1 = q.1 ∧ x.2.1 = q.2.1 ∧ RelV q.2.2 x.2.2) ds xs
section
variable {X : Cx} {pins : List (Addr × Obj)} {σ : L2.St} {H : Hp} {s : Shared}
theorem pairs_ofT (I : Inv X pins σ H s) : ∀ {ps : List Addr} {ds : KAV}, Paired (fun (p : Addr) (q : List Key × Addr × V) => SqT X.G H p [.ref q.2.1, q.2.2] ∧ SqT X.G H q.2.1 (q.1.map kV)) ps ds →
    ∃ (xs : TX) (us : List (Value × Value)), KvX ds xs ∧ us.length = ps.length ∧ xs.length = ps.length ∧ (∀ x ∈ xs, (tupleKind (mixKind X.prog X.w)).is s.heap x.1 x.2.1) ∧ ∀ (j : Nat) (u v : Value), us[j]? = some (u, v) → ∃ c k b, ps[j]? = some c ∧ s.heap.IsTuple c #[u, v] ∧ xs[j]? = some (k, b, v) ∧ u = .ref b
  | _, _, .nil => ⟨[], [], .nil, rfl, rfl, (fun x h => nomatch h), fun j u v h => by cases h⟩
  | p :: ps, (k, b, v) :: ds, .cons ⟨h1, h2⟩ t => by
    obtain ⟨xs, us, g1, g2, g3, g4, g5⟩ := pairs_ofT I t
    obtain ⟨its, rv, hl, _⟩ := I.tuple h1
    cases rv with
    | @cons _ u1 _ us1 r1 t1 =>
      cases t1 with
      | @cons _ u2 _ us2 r2 t2 =>
        cases t2
        cases (show u1 = Value.ref b from r1)
        refine ⟨(k, b, u2) :: xs, (.ref b, u2) :: us, .cons ⟨rfl, rfl, r2⟩ g1, congrArg (· + 1) g2, congrArg (· + 1) g3, fun x hx => ?_, fun j u w hj => ?_⟩
        · rcases List.mem_cons.mp hx with e | hx
          · rw [e]; exact key_sq I h2
          · exact g4 x hx
        · cases j with
          | zero => cases hj; exact ⟨p, k, b, rfl, hl, rfl, rfl⟩
          | succ j => exact g5 j u w hj
theorem storedAll_len : ∀ (xs acc : TX), (storedAllH acc xs).length ≤ acc.length + xs.length
  | [], acc => Nat.le_refl _
  | x :: xs, acc => by
    have h1 : (storedH acc x.1 x.2.1 x.2.2).length ≤ acc.length + 1 := by
      unfold storedH
      split
      · rw [List.length_map]; omega
      · rw [List.length_append]; exact Nat.le_refl _
    have h2 := storedAll_len xs (storedH acc x.1 x.2.1 x.2.2)
    show (storedAllH (storedH acc x.1 x.2.1 x.2.2) xs).length ≤ _
    rw [List.length_cons]; omega
theorem call_dictTT (hcalm : X.calm = true) (hu : X.A.units + 65 < cLine) : CallR X (.type "dict") (fun xs H Q => ∃ (a : Addr) (ps : List Addr) (ds : KAV), xs = [.ref a] ∧ SqL X.G H a (ps.map V.ref) ∧ Paired (fun (p : Addr) (q : List Key × Addr × V) => SqT X.G H p [.ref q.2.1, q.2.2] ∧ SqT X.G H q.2.1 (q.1.map kV)) ps ds ∧
    ∀ p xs, KvX ds xs → H p = none → Q (.ref p) (upd H p (TDo X.prog X.w p (storedAllH [] xs)))) := by
  intro pins s σ H xs us Q I r q
  obtain ⟨a, ps, ds, rfl, hq, hp, q⟩ := q
  obtain ⟨u, rfl, rx⟩ := vals1 r
  cases rx
  obtain ⟨its, rv, pl, hz⟩ := I.list hq
  have ei := refs_at rv
  subst ei
  rw [List.length_map] at hz
  obtain ⟨xs, us, k1, k2, k3, k4, k5⟩ := pairs_ofT I hp
  have big : (s.heap.objs.size == sysModules) = false := beq_eq_false_iff_ne.mpr (Nat.ne_of_gt I.big)
  obtain ⟨o, n, ho, hc, hd, hdat⟩ := pl
  refine PySem.call_dict_pairsH (knd := tupleKind (mixKind X.prog X.w)) (ps := xs) (PairArg.list a (ps.map Value.ref).toArray (fun j => ps.getD j 0) us) (I.ok.hd hcalm) (tupleKind_room_in1 (by show X.A.in1.units + 1 < cLine; show X.A.units + 1 + 1 < cLine; omega)) ⟨⟨o, n, ho, hc, hd, hdat⟩, by simp [k2], fun j k v e => ?_⟩ ⟨by omega, fun j k v e => ?_⟩ (fun h' hk x hx => ?_) (by omega) fun h' tk hd hk => ?_
  · obtain ⟨c, k', b, e1, e2, e3, e4⟩ := k5 j k v e
    exact ⟨by simp [e1], .inl (by simpa [e1] using e2)⟩
  · obtain ⟨c, k', b, e1, e2, e3, e4⟩ := k5 j k v e
    exact ⟨k', b, e3, e4⟩
  · obtain ⟨o, its, n, g1, g2⟩ := k4 x hx
    exact ⟨o, its, n, hk _ o (Nat.ne_of_lt (Heap.lt_size g1)) (by simp) g1, g2⟩
  · have hlen := storedAll_len xs []
    rw [List.length_nil, Nat.zero_add, k3] at hlen
    exact ⟨.ref s.heap.objs.size, upd H s.heap.objs.size (TDo X.prog X.w s.heap.objs.size (storedAllH [] xs)), I.laid (t' := tk) (fun c o e => hk c o (by simp) e) (Nat.le_refl _) (td_new (Nat.le_trans hlen hz) big hd), rfl, q _ xs k1 (I.hok.fresh (Nat.le_refl _))⟩
end
/-- a new object stands, and is known from here on -/
theorem Re.newF {K : Fg} {y : Cy} {dr : Option Addr} {F H : Hp} {env : En} {σ : L2.St} {p : Addr} (re : Re K y dr F env σ H) (fr : Free y dr F env σ p) (ob : HO) : Re K y dr (upd F p ob) env σ (upd H p ob) := by
  have sF : Same F (upd F p ob) := upd_grow fr.nF
  have kp : ∀ b, b ≠ p → upd H p ob b = H b := fun b hb => upd_ne hb
  refine ⟨⟨fun b u e => ?_, re.rf.sup.trans sF, fun b hb => ?_, fun b u e n => ?_, fun b hb => ?_, fun b hb => ?_, re.rf.drs, re.rf.drn⟩, re.len, fun i s o g1 g2 => ?_, re.sep⟩
  · by_cases hb : b = p
    · subst hb; rw [upd_same] at e ⊢; exact e
    · rw [upd_ne hb] at e ⊢; exact re.rf.sub b u e
  · by_cases hbp : b = p
    · subst hbp; exact .inr fr.nH
    · rw [upd_ne hbp] at hb; exact re.rf.new b hb
  · have hb : b ≠ p := fun z => by rw [z, fr.nH] at e; cases e
    rw [kp b hb]; exact re.rf.gr b u e n
  · have hbp : b ≠ p := fun z => by rw [z, fr.nH] at hb; exact hb rfl
    rw [kp b hbp]; exact re.rf.dom b hb
  · obtain ⟨q1, q2⟩ := re.rf.drw b hb
    have hbp : b ≠ p := fun z => fr.nd (by rw [← z]; exact hb.symm)
    exact ⟨by rw [upd_ne hbp]; exact q1, (q2.mono sF).at (kp b hbp)⟩
  · refine (re.slot i s o g1 g2).keep sF fun a ha w => ?_
    obtain ⟨c, w1, _, w3, w4, _⟩ := (re.slot i s o g1 g2).there w
    rw [ha] at w1; cases w1
    have : a ≠ p := fun z => by
      subst z
      exact fr.no i s g1 w (by rw [g2, ha])
    exact ⟨kp a this, by rw [upd_ne this]; exact w3, w4⟩
def pairsT : List D → Option (List (List Key × D))
  | [] => some []
  | .tuple [k, d] :: r => (ktOf k).bind fun k => (pairsT r).map fun l => (k, d) :: l
  | _ :: _ => none
def mergeT (kvs more : List (List Key × D)) : List (List Key × D) := more.foldl (fun acc kv => putT acc kv.1 kv.2) kvs
def sPairsT (m : SE) : SE := fun env Q => m env fun d => match d with
  | .list xs => obT (pairsT xs) fun kvs => Q (.dict (ktM (mergeT [] kvs)))
  | _ => False
@[simp] theorem u_sPairsT {m : SE} {env : En} {Q : D → Prop} : sPairsT m env Q = (m env fun d => match d with
  | .list xs => obT (pairsT xs) fun kvs => Q (.dict (ktM (mergeT [] kvs)))
  | _ => False) := rfl
def RKA (K : Fg) (F : Hp) (kvs : List (List Key × D)) (ds : KAV) : Prop := Paired (fun (p : List Key × D) (q : List Key × Addr × V) => p.1 = q.1 ∧ PlT K F q.2.1 (q.1.map kV) ∧ Rv K F p.2 q.2.2) kvs ds
theorem rka_merge {K : Fg} {F : Hp} {kvs : List (List Key × D)} {ds : KAV} (h : RKA K F kvs ds) : ∀ {xs : TX} {acc : List (List Key × D)} {xa : TX}, KvX ds xs → Rkt K F (ktD acc) xa → Rkt K F (ktD (mergeT acc kvs)) (storedAllH xa xs) := by
  unfold RKA at h
  induction h with
  | nil =>
    intro xs acc xa h2 h3
    cases h2
    exact h3
  | @cons p q ps qs h t ih =>
    intro xs acc xa h2 h3
    cases h2 with
    | @cons _ x _ xs' g t' =>
      obtain ⟨k, d⟩ := p
      obtain ⟨k2, b, v⟩ := q
      obtain ⟨k3, b2, u⟩ := x
      obtain ⟨e1, e2, r⟩ := g
      obtain ⟨e3, pl, rv⟩ := h
      have e1 : k3 = k2 := e1
      have e2 : b2 = b := e2
      have e3 : k = k2 := e3
      subst e1 e2 e3
      exact ih (xs := xs') (acc := putT acc _ d) (xa := storedH xa _ _ u) t' (rkt_put pl r rv h3)
theorem pairsT_rvs {K : Fg} {y : Cy} {dr : Option Addr} {F H : Hp} {env : En} {σ : L2.St} (re : Re K y dr F env σ H) : ∀ {xs : List D} {vs : List V} {kvs : List (List Key × D)}, pairsT xs = some kvs → Rvs K F xs vs →
    ∃ (ps : List Addr) (ds : KAV), vs = ps.map V.ref ∧ Paired (fun (p : Addr) (q : List Key × Addr × V) => SqT K H p [.ref q.2.1, q.2.2] ∧ SqT K H q.2.1 (q.1.map kV)) ps ds ∧ RKA K F kvs ds
  | [], _, kvs, h, r => by
    cases r; cases h
    exact ⟨[], [], rfl, .nil, .nil⟩
  | x :: xs, vs, kvs, h, r => by
    cases r with
    | cons w rr =>
      cases x with
      | tuple zs =>
        match zs, h, w with
        | [k, d], h, w =>
          have h : (ktOf k).bind (fun k => (pairsT xs).map fun l => (k, d) :: l) = some kvs := h
          cases q : ktOf k with
          | none => rw [q] at h; cases h
          | some k2 =>
            rw [q] at h
            have h : (pairsT xs).map (fun l => (k2, d) :: l) = some kvs := h
            cases q2 : pairsT xs with
            | none => rw [q2] at h; cases h
            | some l =>
              rw [q2] at h
              cases h
              obtain ⟨ps, ds, rfl, h1, h2⟩ := pairsT_rvs re q2 rr
              cases w with
              | tup s1 s2 s3 =>
                cases s3 with
                | cons wk wd =>
                  cases wd with
                  | cons wd wn =>
                    cases wn
                    obtain ⟨c, rfl, hc⟩ := (show Vr K false F env σ k _ from .inl wk).keyT re q
                    exact ⟨_ :: ps, (k2, c, _) :: ds, rfl, .cons ⟨re_tuple re s1, re_tuple re hc⟩ h1, .cons ⟨rfl, hc, wd⟩ h2⟩
        | [], h, w => cases h
        | [_], h, w => cases h
        | _ :: _ :: _ :: _, h, w => cases h
      | _ => cases h
section
variable {X : Cx} {b : Bool} {a : Expr} {ma : SE} {pos : Pos}
theorem me_pairsT {p : Pos} (hc : X.calm = true) (hu : X.A.units + 65 < cLine) (hg : Gl X "dict") (hm : X.mg "dict" = none) (ha : ME X true a ma) (he : starEach [a] X.env = (false, eval a X.env) :: starEach [] X.env := by rfl) (hpl : (backTo pos (starEach [] X.env)).any (·.1) = false := by rfl) :
    ME X b (.Call (.Name "dict" p) [a] [] pos) (sPairsT ma) := by
  refine ⟨⟨fun pins s σ H Q I hq => (pe_callTy (call_dictTT hc hu) hg hm (by decide +kernel) (pa_cons ha.run pa_nil he) (by decide) (by decide) he hpl).run pins s σ H Q I ?_⟩, fun env P Q k hp => ha.mono _ _ _ (fun d h1 => ?_) hp⟩
  · obtain ⟨y, dr, F, env, re, hm⟩ := hq
    refine ⟨y, dr, F, env, re, ha.mono _ _ _ (fun d1 h1 v1 H1 F1 r1 s1 w1 => ?_) hm⟩
    cases d1 with
    | list xs =>
      have h1 : obT (pairsT xs) _ := h1
      cases q : pairsT xs with
      | none => rw [q] at h1; exact h1.elim
      | some kvs =>
        rw [q] at h1
        obtain ⟨l, vs, rfl, hl, hz, rv, nd, _⟩ := w1.listD r1
        obtain ⟨ps, ds, rfl, h2, h3⟩ := pairsT_rvs r1 q rv
        refine ⟨l, ps, ds, rfl, SqL.of hl, h2, fun p2 xs2 kx hp2 => ?_⟩
        have fr := r1.free hp2
        have rk : Rkt X.G F1 (ktD (mergeT [] kvs)) (storedAllH [] xs2) := rka_merge h3 kx .nil
        have h1 : ∀ v H' F', _ := h1
        refine h1 _ _ (upd F1 p2 (TDo X.prog X.w p2 (storedAllH [] xs2))) (r1.newF fr _) ⟨s1.f.trans (upd_grow fr.nF), fun c u e n => ?_⟩ (.inl (.dit (.inl upd_same) (Rkt.mono (upd_grow fr.nF) rk)))
        have hc2 : H1 c = some u := s1.k c u e n
        have : c ≠ p2 := fun z => by rw [z, hp2] at hc2; cases hc2
        rw [upd_ne this]; exact hc2
    | _ => exact h1.elim
  · cases d with
    | list xs => exact obT_mono (fun kvs h => k _ h) h1
    | _ => exact h1.elim
end
end Mi

namespace Mi
open PySem PySem.Spec L2
/-! ### the program by places -/
def top (i : Nat) : Stmt := PySem.Challenge.pw_jobwarden_k31_power_and_polling.main.body.getD i (.Pass ⟨0, 0, 0, 0⟩)
abbrev sDr : Stmt := top 15
abbrev sNx : Stmt := top 16
structure Bt (K : Fg) (mg : Str → Option Value) : Prop where
  b_abs : mg "abs" = none
  b_all : mg "all" = none
  b_any : mg "any" = none
  b_bool : mg "bool" = none
  b_dict : mg "dict" = none
  b_enumerate : mg "enumerate" = none
  b_int : mg "int" = none
  b_isinstance : mg "isinstance" = none
  b_len : mg "len" = none
  b_list : mg "list" = none
  b_min : mg "min" = none
  b_range : mg "range" = none
  b_set : mg "set" = none
  b_sorted : mg "sorted" = none
  b_str : mg "str" = none
  b_sum : mg "sum" = none
  b_tuple : mg "tuple" = none
  b_zip : mg "zip" = none
section
variable {P : Program} {w : World} {K : PySem.W.Frag} {mg : Str → Option Value} {base : Heap}
theorem scNx : FnScope ["draw", "many", "found", "cell"] ["draw", "many"] (defScope sNx) := ⟨rfl, rfl, rfl, by decide +kernel, rfl, by decide +kernel, by decide +kernel⟩
theorem rd0 {σ : L2.St} {H : Hp} {a : Addr} {xs : List V} {v : V} (i : Nat) {Q : VK} (h0 : σ[0]? = some (some (.ref a))) (hH : H a = some (.lst xs)) (hv : xs[i]? = some v) (q : Q v H) : tOp (rIxL K) (tVar 0) (tC (.int (i : Int))) σ H Q :=
  ⟨.ref a, h0, ⟨a, xs, _, v, rfl, rfl, SqL.of hH, atI_nat hv, q⟩⟩
theorem st0 {σ : L2.St} {H : Hp} {a : Addr} {xs : List V} {v : V} (i : Nat) {Q : L2.St → Hp → Prop} (h0 : σ[0]? = some (some (.ref a))) (hH : H a = some (.lst xs)) (hi : i < xs.length) (q : Q σ (upd H a (.lst (xs.set i v)))) : gSub (tVar 0) (tC (.int (i : Int))) rSetL v σ H Q :=
  ⟨.ref a, h0, a, xs, (i : Int), i, rfl, rfl, hH, by unfold ixN; rw [if_pos (Int.natCast_nonneg i), if_pos (by omega)]; simp, q⟩
theorem int1 {H : Hp} {i : Int} {Q : VK} (q : Q (.int i) H) : (∃ j, [V.int i] = [V.int j] ∧ Q (.int j) H) ∨ ∃ k, [V.int i] = [V.bl k] ∧ Q (.int (if k then 1 else 0)) H := .inl ⟨i, rfl, q⟩
theorem nx_end {a l : Addr} {ns : List Int} {p c s p' c' s' k n : Int} {F H : Hp} {Q : VK} (hF : Same F H) (hFa : F a = none) (hH : H a = some (.lst [.ref l, .int p, .int c, .int s])) (hl : F l = some (.lst (ns.map V.int)))
    (kq : ∀ n H', 0 ≤ n → n < k → Same F H' → DrOk F H' a → (∀ b, b ≠ a → H' b = H b) → Q (.int n) H') (n0 : 0 ≤ n) (n1 : n < k) (h1 : 0 ≤ p') (h2 : 0 ≤ c') (h3 : 0 ≤ s') (h4 : s' < 2147483648) {H' : Hp} (hH' : H' a = some (.lst [.ref l, .int p', .int c', .int s'])) (hb : ∀ b, b ≠ a → H' b = H b) : Q (.int n) H' :=
  kq n H' n0 n1 (fun b o e => by rw [hb b fun z => by rw [z, hFa] at e; cases e]; exact hF b o e) ⟨l, ns, p', c', s', hH', hl, h1, h2, h3, h4⟩ hb
set_option maxHeartbeats 4000000 in
theorem ok_next {f : Addr} {fd : FuncData} (F : Fun K "_law_next" "_law_next" sNx f fd) (B : BtN mg) : FnOk P w K mg base CX0 1 f fd ["draw", "many"] spNext := by
  refine F.ok scNx (fun vs H Q E h => ?_) (fun cdv A outer s H vs Q E hr h => ?_)
  · obtain ⟨a, k, F0, rfl, _⟩ := h
    rfl
  · obtain ⟨a, k, F0, rfl, hF, hFa, ⟨l, ns, p, c, sd, hH, hl, p0, c0, s0, s1⟩, k0, k1, kq⟩ := h
    have fin := fun {n p' c' s' : Int} => nx_end (n := n) (p' := p') (c' := c') (s' := s') hF hFa hH hl kq
    refine ⟨_, pss_cons (ps_if (pt_cmpR op_gt (pe_ix ix_list (pv 0) pe_int (fun _ _ => rfl)) pe_int (nomark _))
        (pss_cons (ps_set (i := 2) scNx.nd rfl (.inl rfl) (pe_op op_mod (pe_callTy call_int1 (by rfl) B.int (by decide +kernel) (pa_cons (pe_ix ix_list (pv 0) pe_int (fun _ _ => rfl)) pa_nil)) (pv 1)))
        (pss_cons (ps_asg (pe_op op_fdiv (pe_ix ix_list (pv 0) pe_int (fun _ _ => rfl)) (pv 1)) (pg_sub (pv 0) pe_int set_list))
        (pss_one (ps_ret (pv 2))))) pss_nil)
      (pss_cons (ps_if (pt_cmpR op_lt (pe_ix ix_list (pv 0) pe_int (fun _ _ => rfl)) (pe_callB call_len_seq (by rfl) B.len PySem.boot_len (pa_cons (pe_ix ix_list (pv 0) pe_int (fun _ _ => rfl)) pa_nil)) (nomark _))
        (pss_cons (ps_set (i := 3) scNx.nd rfl (.inl rfl) (pe_callB call_abs (by rfl) B.abs (by decide +kernel) (pa_cons (pe_ix ix_list (pe_ix ix_list (pv 0) pe_int (fun _ _ => rfl)) (pe_ix ix_list (pv 0) pe_int (fun _ _ => rfl)) (fun _ _ => rfl)) pa_nil)))
        (pss_cons (ps_asg (pe_op op_add (pe_ix ix_list (pv 0) pe_int (fun _ _ => rfl)) pe_int) (pg_sub (pv 0) pe_int set_list))
        (pss_cons (ps_if (pt_cmpR op_ge (pv 3) (pe_op op_pow pe_int pe_int) (nomark _))
          (pss_cons (ps_asg (pe_op op_fdiv (pv 3) (pv 1)) (pg_sub (pv 0) pe_int set_list))
          (pss_one (ps_ret (pe_op op_mod (pe_callTy call_int1 (by rfl) B.int (by decide +kernel) (pa_cons (pv 3) pa_nil)) (pv 1))))) pss_nil)
        (pss_one (ps_asg (pe_op op_mod (pe_callTy call_int1 (by rfl) B.int (by decide +kernel) (pa_cons (pe_op op_add (pe_op op_add (pe_op op_mul (pe_ix ix_list (pv 0) pe_int (fun _ _ => rfl)) pe_int) (pv 3)) pe_int) pa_nil)) pe_int) (pg_sub (pv 0) pe_int set_list))))))
        (pss_one (ps_asg (pe_op op_mod (pe_callTy call_int1 (by rfl) B.int (by decide +kernel) (pa_cons (pe_op op_add (pe_op op_mul (pe_ix ix_list (pv 0) pe_int (fun _ _ => rfl)) pe_int) pe_int) pa_nil)) pe_int) (pg_sub (pv 0) pe_int set_list))))
      (pss_one (ps_ret (pe_op op_mod (pe_op op_fdiv (pe_callTy call_int1 (by rfl) B.int (by decide +kernel) (pa_cons (pe_op op_mod (pe_op op_mul (pe_ix ix_list (pv 0) pe_int (fun _ _ => rfl)) pe_int) pe_int) pa_nil)) pe_int) (pv 1))))), ?_⟩
    -- if draw[2] > 0
    refine rd0 2 rfl hH rfl ⟨_, _, rfl, rfl, _, rfl, ?_⟩
    refine ite2 (fun hc => ?_) (fun hc => ?_)
    · refine rd0 2 rfl hH rfl (.inl ⟨_, rfl, _, rfl, _, _, rfl, rfl, k0, ?_⟩)
      refine rd0 2 rfl hH rfl ⟨_, rfl, _, _, rfl, rfl, ⟨k0, k1⟩, ?_⟩
      refine st0 2 rfl hH (by simp) ⟨_, rfl, ?_⟩
      have hc : 0 < c := of_decide_eq_true hc
      exact fin (Int.emod_nonneg _ (by omega)) (Int.emod_lt_of_pos _ k0) p0 (Int.ediv_nonneg (by omega) (by omega)) s0 s1 upd_same fun b hb => upd_ne hb
    · -- the last row
      have last : ∀ (σ : L2.St) (H1 : Hp) (p' s' : Int), σ[0]? = some (some (.ref a)) → σ[1]? = some (some (.int k)) → H1 a = some (.lst [.ref l, .int p', .int c, .int s']) → 0 ≤ p' → 0 ≤ s' → s' < 2147483648 → (∀ b, b ≠ a → H1 b = H b) →
          tRet (tOp (rI (fun _ j => 0 < j) fun i j => .int (i % j)) (tOp (rI CDiv fun i j => .int (i / j)) (tCB (fun xs H Q => (∃ i, xs = [.int i] ∧ Q (.int i) H) ∨ ∃ k, xs = [.bl k] ∧ Q (.int (if k then 1 else 0)) H) (tCons (tOp (rI (fun _ j => 0 < j) fun i j => .int (i % j)) (tOp (rI CMul fun i j => .int (i * j)) (tOp (rIxL K) (tVar 0) (tC (.int 3))) (tC (.int 69621))) (tC (.int 2147483629))) tNil)) (tC (.int 7))) (tVar 1)) { nx := fun _ H' => Q .non H', rt := Q } σ H1 := by
        intro σ H1 p' s' h0 h1 hH1 hp hs hs2 hb
        refine rd0 3 h0 hH1 rfl ⟨_, _, rfl, rfl, .inr ⟨by decide, by decide⟩, _, _, rfl, rfl, (show (0:Int) < 2147483629 from by decide), .inl ⟨_, rfl, _, _, rfl, rfl, ⟨by decide, by decide⟩, _, h1, _, _, rfl, rfl, k0, ?_⟩⟩
        exact fin (Int.emod_nonneg _ (by omega)) (Int.emod_lt_of_pos _ k0) hp c0 hs hs2 hH1 hb
      refine rd0 1 rfl hH rfl ?_
      refine rd0 0 rfl hH rfl ⟨l, _, rfl, .inl (SqL.of (hF _ _ hl)), _, _, rfl, rfl, _, rfl, ?_⟩
      refine ite2 (fun hp => ?_) (fun hp => ?_)
      · have hp : p < ((ns.map V.int).length : Int) := of_decide_eq_true hp
        rw [List.length_map] at hp
        obtain ⟨j, rfl⟩ : ∃ j : Nat, p = (j : Int) := ⟨p.toNat, by omega⟩
        have hj : j < ns.length := by omega
        refine rd0 0 rfl hH rfl ?_
        refine rd0 1 rfl hH rfl ⟨l, ns.map V.int, _, .int ns[j], rfl, rfl, SqL.of (hF _ _ hl), atI_nat (by rw [List.getElem?_map]; simp [hj]), _, rfl, ?_⟩
        refine rd0 1 rfl hH rfl ⟨_, _, rfl, rfl, ?_⟩
        refine st0 1 rfl hH (by simp) ?_
        refine ⟨_, rfl, _, _, rfl, rfl, ⟨by decide, by decide, by decide⟩, _, _, rfl, rfl, _, rfl, ?_⟩
        have ab : (0 : Int) ≤ (if ns[j] < 0 then -ns[j] else ns[j]) := by split <;> omega
        refine ite2 (fun hg => ?_) (fun hg => ?_)
        · refine ⟨_, rfl, _, rfl, _, _, rfl, rfl, ⟨k0, k1⟩, ?_⟩
          refine st0 2 rfl upd_same (by simp) ?_
          refine ⟨_, rfl, .inl ⟨_, rfl, _, rfl, _, _, rfl, rfl, k0, ?_⟩⟩
          exact fin (Int.emod_nonneg _ (by omega)) (Int.emod_lt_of_pos _ k0) (by omega) (Int.ediv_nonneg ab (by omega)) s0 s1 upd_same fun b hb => by rw [upd_ne hb, upd_ne hb]
        · refine rd0 3 rfl upd_same rfl ⟨_, _, rfl, rfl, .inr ⟨by decide, by decide⟩, _, rfl, _, _, rfl, rfl, _, _, rfl, rfl, .inl ⟨_, rfl, _, _, rfl, rfl, (show (0:Int) < 2147483647 from by decide), ?_⟩⟩
          refine st0 3 rfl upd_same (by simp) ?_
          exact last _ _ _ _ rfl rfl upd_same (by omega) (Int.emod_nonneg _ (by decide)) (by omega) fun b hb => by rw [upd_ne hb, upd_ne hb]
      · refine rd0 3 rfl hH rfl ⟨_, _, rfl, rfl, .inr ⟨by decide, by decide⟩, _, _, rfl, rfl, .inl ⟨_, rfl, _, _, rfl, rfl, (show (0:Int) < 2147483647 from by decide), ?_⟩⟩
        refine st0 3 rfl hH (by simp) ?_
        exact last _ _ _ _ rfl rfl upd_same p0 (Int.emod_nonneg _ (by decide)) (by omega) fun b hb => upd_ne hb

theorem scDr : FnScope ["script"] ["script"] (defScope sDr) := ⟨rfl, rfl, rfl, by decide +kernel, rfl, by decide +kernel, by decide +kernel⟩
theorem ok_draw {f : Addr} {fd : FuncData} (F : Fun K "_law_draw" "_law_draw" sDr f fd) (hm : mg "list" = none) : FnOk P w K mg base CX0 1 f fd ["script"] (spDraw K) := by
  refine F.ok scDr (fun vs H Q E h => ?_) (fun cdv A outer s H vs Q E hr h => ?_)
  · obtain ⟨a, ns, rfl, _⟩ := h
    rfl
  · obtain ⟨a, ns, rfl, hS, hlen, kq⟩ := h
    refine ⟨_, pss_one (ps_ret (pe_lst (pa_cons (pe_callTy call_list_of (by rfl) hm (by decide +kernel) (pa_cons (pv 0) pa_nil)) (pa_cons pe_int (pa_cons pe_int (pa_cons pe_int pa_nil)))))), ?_⟩
    refine ⟨.ref a, rfl, a, _, rfl, .inl hS, fun l hl => ⟨by rw [sizeLine_eq]; show 4 ≤ 16777216; decide, fun q hq => ?_⟩⟩
    have ne : l ≠ q := fun z => by rw [z, upd_same] at hq; cases hq
    rw [upd_ne (Ne.symm ne)] at hq
    exact kq q l _ hq hl ne upd_same (by rw [upd_ne ne, upd_same]) fun b o e => by rw [upd_ne (ne_of_none e hq), upd_ne (ne_of_none e hl)]; exact e
end

section
variable {P : Program} {w : World} {K : PySem.W.Frag} {mg : Str → Option Value} {base : Heap}
/-! _law_same -/
abbrev s__law_same : Stmt := top 17
abbrev n__law_same : List Str := ["actual", "due", "k"]
theorem sc__law_same : FnScope n__law_same ["actual", "due"] (defScope s__law_same) := ⟨rfl, rfl, rfl, by decide +kernel, rfl, by decide +kernel, by decide +kernel⟩
abbrev b__law_same (sm : Sm) : SS := bSame sm
abbrev m__law_same : Sm := smS 8
theorem w__law_same (T : Bt ⟨K, P, w⟩ mg) {sm : Sm} {k : Nat} {ps : List Str} (hps : ps.length = 2) (d__law_same : Df P w K mg base "_law_same" k ps (spOf ⟨K, P, w⟩ sm 2)) {f : Addr} {fd : FuncData} (F : Fun K "_law_same" "_law_same" s__law_same f fd) : FnOk P w K mg base CX0 (k + 1) f fd ["actual", "due"] (spOf ⟨K, P, w⟩ (semD 3 (b__law_same sm)) 2) :=
  def_ok F sc__law_same fun cdv A outer s H E hr => by
    have hu := hu65 hr
    exact (mss_cons (ms_if (mt_tru (me_is2 (t := .list) (t' := .tuple) (by rfl) T.b_isinstance (me_var (pv 1)) (pe_ty (t := .list) (by rfl) T.b_list (by decide +kernel)) (pe_ty (t := .tuple) (by rfl) T.b_tuple (by decide +kernel)))) (mss_cons (ms_if (mt_w (mw_or (mt_c (b := true) (c_ne hu) (me_is1 (t := .list) (by rfl) T.b_isinstance (me_var (pv 1)) (pe_ty (t := .list) (by rfl) T.b_list (by decide +kernel))) (me_is1 (t := .list) (by rfl) T.b_isinstance (me_var (pv 0)) (pe_ty (t := .list) (by rfl) T.b_list (by decide +kernel)))) (mw_or1 (mt_c (b := true) (c_ne hu) (me_is1 (t := .tuple) (by rfl) T.b_isinstance (me_var (pv 1)) (pe_ty (t := .tuple) (by rfl) T.b_tuple (by decide +kernel))) (me_is1 (t := .tuple) (by rfl) T.b_isinstance (me_var (pv 0)) (pe_ty (t := .tuple) (by rfl) T.b_tuple (by decide +kernel))))))) (mss_one (ms_ret me_bl)) mss_nil)
    (mss_cons (ms_if (mt_c (b := true) (c_ne hu) (me_len (by rfl) T.b_len (me_var (pv 0))) (me_len (by rfl) T.b_len (me_var (pv 1)))) (mss_one (ms_ret me_bl)) mss_nil)
    (mss_one (ms_ret (me_all rfl (by rfl) T.b_all (me_f (mf_lc (own := [("k", 2)]) rfl sc__law_same.nd (mi_r1 (by rfl) T.b_range (me_len (by rfl) T.b_len (me_var (pv 1)))) (blkOk_by (own := [("k", 2)]) (N := n__law_same) (sc := defScope s__law_same) (by decide +kernel)) (fun _ _ _ _ _ => (mg_name sc__law_same.nd rfl (by first | exact .inl rfl | exact .inr rfl) (by decide))) (fun _ _ _ _ _ => mts_nil) (fun _ _ _ _ _ => (me_callD d__law_same hps hr rfl (mr_cons (me_ix (me_var (pv 0)) (me_var (pv 2))) (mr_cons (me_ix (me_var (pv 1)) (me_var (pv 2))) mr_nil))))))))))) mss_nil)
    (mss_cons (ms_if (mt_c (b := true) c_is (me_var (pv 1)) me_non) (mss_one (ms_ret (me_c (b := true) c_is (me_var (pv 0)) me_non))) mss_nil)
    (mss_cons (ms_if (mt_c (b := true) (c_ne hu) (me_is1 (t := .bool) (by rfl) T.b_isinstance (me_var (pv 1)) (pe_ty (t := .bool) (by rfl) T.b_bool (by decide +kernel))) (me_is1 (t := .bool) (by rfl) T.b_isinstance (me_var (pv 0)) (pe_ty (t := .bool) (by rfl) T.b_bool (by decide +kernel)))) (mss_one (ms_ret me_bl)) mss_nil)
    (mss_cons (ms_if (mt_tru (me_is1 (t := .str) (by rfl) T.b_isinstance (me_var (pv 1)) (pe_ty (t := .str) (by rfl) T.b_str (by decide +kernel)))) (mss_one (ms_ret (me_and (me_is1 (t := .str) (by rfl) T.b_isinstance (me_var (pv 0)) (pe_ty (t := .str) (by rfl) T.b_str (by decide +kernel))) (me_one (me_c (b := true) (c_eq hu) (me_var (pv 0)) (me_var (pv 1))))))) mss_nil)
    (mss_one (ms_ret (me_and (me_is1 (t := .int) (by rfl) T.b_isinstance (me_var (pv 0)) (pe_ty (t := .int) (by rfl) T.b_int (by decide +kernel))) (me_one (me_c (b := true) (c_eq hu) (me_var (pv 0)) (me_var (pv 1)))))))))))
theorem same_step {n : Nat} {args : List Sl} {Q : D → Prop} (h : smS (n + 1) args Q) : semD 3 (b__law_same (smS n)) args Q := by
  obtain ⟨a, rfl, hp, hq⟩ := h
  exact same_math hp hq
theorem same_ok (T : Bt ⟨K, P, w⟩ mg) {f : Addr} {fd : FuncData} (F : Fun K "_law_same" "_law_same" s__law_same f fd) (hm : mg "_law_same" = some (.ref f)) (hk : PySem.W.keepIn K (.ref f) = true) (hb : Binds K fd ["actual", "due"] []) : ∀ n, FnOk P w K mg base CX0 (n + 1) f fd ["actual", "due"] (spOf ⟨K, P, w⟩ (smS n) 2)
  | 0 => ⟨fun vs H Q E h => h.1, fun A outer s H args us vs Q E hr he hbi hv h => by
      obtain ⟨_, _, _, _, _, _, _, _, ⟨a, _, hp, _⟩, _⟩ := h
      cases hp⟩
  | n + 1 => (w__law_same T rfl ⟨f, fd, hm, hk, hb, same_ok T F hm hk hb n⟩ F).imp fun vs H Q E h => by
      obtain ⟨h1, F, dr, args, h2, h3, h4, R, h5, h6⟩ := h
      exact ⟨h1, F, dr, args, h2, h3, h4, R, same_step h5, h6⟩
theorem same_df (T : Bt ⟨K, P, w⟩ mg) {h : Heap} {f : Addr} {od an : Option Addr} {sl : Array (Option Value)} {oc kV dc pm cd ct : Value} (X : K.In h) (G : h.Ns mainGlobals mg)
    (a : PySem.W.nsIn K mainGlobals "_law_same" = some (some (.ref f))) (lk : K.lookup f = some ⟨oc, od, .func (PySem.W.fnOf "_law_same" "_law_same" (defArgs s__law_same) (defBody s__law_same) (defScope s__law_same) .none kV dc pm an cd ct), sl⟩) (c : PySem.W.codeIn K cd "_law_same" = true) (kp : PySem.W.keepIn K (.ref f) = true) :
    Df P w K mg base "_law_same" 9 ["actual", "due"] (spOf ⟨K, P, w⟩ (smS 8) 2) := by
  have F := fun_mk (st := s__law_same) lk c kp
  have hb : Binds K _ ["actual", "due"] [] := F.binds (ps := ["actual", "due"]) fun _ _ _ _ _ _ us hl => match us, hl with | [_, _], _ => rfl
  exact ⟨f, _, PySem.W.mg_of X G a, kp, hb, same_ok T F (PySem.W.mg_of X G a) kp hb 8⟩

/-! pauses -/
abbrev s_pauses : Stmt := top 1
abbrev n_pauses : List Str := ["works", "earlier", "later"]
theorem sc_pauses : FnScope n_pauses ["works"] (defScope s_pauses) := ⟨rfl, rfl, rfl, by decide +kernel, rfl, by decide +kernel, by decide +kernel⟩
def b_pauses : SS := (sRet (sFr (sLc (iZp (sVar 0) (sSl (sVar 0) (sPart (sC (.int 1))) sNo)) [1, 2] (gT 2 (gCo (gN 1) (gCo (gN 2) gNo))) tYes' (sOp subD (sOp ixD (sVar 2) (sC (.int 0))) (sOp ixD (sVar 1) (sC (.int 1)))))))
def m_pauses : Sm := semD 3 b_pauses
theorem w_pauses (T : Bt ⟨K, P, w⟩ mg)  {f : Addr} {fd : FuncData} (F : Fun K "pauses" "pauses" s_pauses f fd) : FnOk P w K mg base CX0 2 f fd ["works"] (spOf ⟨K, P, w⟩ m_pauses 1) :=
  def_ok F sc_pauses fun cdv A outer s H E hr => by
    have hu := hu65 hr
    have hr1 := hr.mono (by decide : 1 ≤ 1)
    exact (mss_one (ms_ret (me_f (mf_lc (own := [("earlier", 1), ("later", 2)]) rfl sc_pauses.nd (mi_zip (by rfl) T.b_zip (me_var (pv 0)) (me_sl (me_var (pv 0)) (mo_some me_int) mo_none)) (blkOk_by (own := [("earlier", 1), ("later", 2)]) (N := n_pauses) (sc := defScope s_pauses) (by decide +kernel)) (fun _ _ _ _ _ => (mg_tup rfl (mgs_cons (mg_name sc_pauses.nd rfl (by first | exact .inl rfl | exact .inr rfl) (by decide)) (mgs_cons (mg_name sc_pauses.nd rfl (by first | exact .inl rfl | exact .inr rfl) (by decide)) mgs_nil)))) (fun _ _ _ _ _ => mts_nil) (fun _ _ _ _ _ => (me_sub (b := true) (me_ix (me_var (pv 2)) me_int) (me_ix (me_var (pv 1)) me_int)))))))
/-! own_minutes -/
abbrev s_own_minutes : Stmt := top 2
abbrev n_own_minutes : List Str := ["works", "first", "last"]
theorem sc_own_minutes : FnScope n_own_minutes ["works"] (defScope s_own_minutes) := ⟨rfl, rfl, rfl, by decide +kernel, rfl, by decide +kernel, by decide +kernel⟩
def b_own_minutes : SS := (sRet (sUn sumD (sFr (sLc (iVal (sVar 0)) [1, 2] (gT 2 (gCo (gN 1) (gCo (gN 2) gNo))) tYes' (sOp subD (sVar 2) (sVar 1))))))
def m_own_minutes : Sm := semD 3 b_own_minutes
theorem w_own_minutes (T : Bt ⟨K, P, w⟩ mg)  {f : Addr} {fd : FuncData} (F : Fun K "own_minutes" "own_minutes" s_own_minutes f fd) : FnOk P w K mg base CX0 2 f fd ["works"] (spOf ⟨K, P, w⟩ m_own_minutes 1) :=
  def_ok F sc_own_minutes fun cdv A outer s H E hr => by
    have hu := hu65 hr
    have hr1 := hr.mono (by decide : 1 ≤ 1)
    exact (mss_one (ms_ret (me_sum rfl (by rfl) T.b_sum (me_f (mf_lc (own := [("first", 1), ("last", 2)]) rfl sc_own_minutes.nd (mi_val (me_var (pv 0))) (blkOk_by (own := [("first", 1), ("last", 2)]) (N := n_own_minutes) (sc := defScope s_own_minutes) (by decide +kernel)) (fun _ _ _ _ _ => (mg_tup rfl (mgs_cons (mg_name sc_own_minutes.nd rfl (by first | exact .inl rfl | exact .inr rfl) (by decide)) (mgs_cons (mg_name sc_own_minutes.nd rfl (by first | exact .inl rfl | exact .inr rfl) (by decide)) mgs_nil)))) (fun _ _ _ _ _ => mts_nil) (fun _ _ _ _ _ => (me_sub (b := true) (me_var (pv 2)) (me_var (pv 1)))))))))
/-! least_cost -/
abbrev s_least_cost : Stmt := top 3
abbrev n_least_cost : List Str := ["works", "wake", "plan", "pause"]
theorem sc_least_cost : FnScope n_least_cost ["works", "wake"] (defScope s_least_cost) := ⟨rfl, rfl, rfl, by decide +kernel, rfl, by decide +kernel, by decide +kernel⟩
def t_least_cost_3 : SS := (sRet (sTup (sCons (sOp addD (sOp addD (sCall 1 m_own_minutes (rCons (sVar 0) rNil)) (sVar 1)) (sUn sumD (sFr (sLc (iVal (sCall 1 m_pauses (rCons (sVar 0) rNil))) [3] (gN 3) tYes' (sOp min2D (sVar 3) (sVar 1)))))) (sCons (sVar 2) sNil))))
def t_least_cost_2 : SS := sSeq (sAsg 2 (sUn tupD (sFr (sLc (iVal (sCall 1 m_pauses (rCons (sVar 0) rNil))) [3] (gN 3) tYes' (sIf (sTB (sOp ltD (sVar 3) (sVar 1))) (sC (.str "on")) (sC (.str "off"))))))) t_least_cost_3
def b_least_cost : SS := sSeq (sIfS (sNot (sTru (sVar 0))) (sRet (sTup (sCons (sC (.int 0)) (sCons (sTup sNil) sNil)))) sSkip) t_least_cost_2
def m_least_cost : Sm := semD 4 b_least_cost
theorem w_least_cost (T : Bt ⟨K, P, w⟩ mg) (d_pauses : Df P w K mg base "pauses" 2 ["works"] (spOf ⟨K, P, w⟩ m_pauses 1)) (d_own_minutes : Df P w K mg base "own_minutes" 2 ["works"] (spOf ⟨K, P, w⟩ m_own_minutes 1)) {f : Addr} {fd : FuncData} (F : Fun K "least_cost" "least_cost" s_least_cost f fd) : FnOk P w K mg base CX0 3 f fd ["works", "wake"] (spOf ⟨K, P, w⟩ m_least_cost 2) :=
  def_ok F sc_least_cost fun cdv A outer s H E hr => by
    have hu := hu65 hr
    have hr1 := hr.mono (by decide : 1 ≤ 2)
    exact (mss_cons (ms_if (mt_not (mt_tru (me_var (pv 0)))) (mss_one (ms_ret (me_tup (ma_cons me_int (ma_cons (me_tup ma_nil) ma_nil))))) mss_nil)
    (mss_cons (ms_set (i := 2) sc_least_cost.nd rfl (by first | exact .inl rfl | exact .inr rfl) (me_tuple (by rfl) T.b_tuple (me_f (mf_lc (own := [("pause", 3)]) rfl sc_least_cost.nd (mi_val (me_callD d_pauses rfl (hr.mono (by decide)) rfl (mr_cons (me_var (pv 0)) mr_nil))) (blkOk_by (own := [("pause", 3)]) (N := n_least_cost) (sc := defScope s_least_cost) (by decide +kernel)) (fun _ _ _ _ _ => (mg_name sc_least_cost.nd rfl (by first | exact .inl rfl | exact .inr rfl) (by decide))) (fun _ _ _ _ _ => mts_nil) (fun _ _ _ _ _ => (me_if (mt_c (b := true) (c_lt hu) (me_var (pv 3)) (me_var (pv 1))) (me_str) (me_str)))))))
    (mss_one (ms_ret (me_tup (ma_cons (me_add (b := true) (me_add (b := true) (me_callD d_own_minutes rfl (hr.mono (by decide)) rfl (mr_cons (me_var (pv 0)) mr_nil)) (me_var (pv 1))) (me_sum rfl (by rfl) T.b_sum (me_f (mf_lc (own := [("pause", 3)]) rfl sc_least_cost.nd (mi_val (me_callD d_pauses rfl (hr.mono (by decide)) rfl (mr_cons (me_var (pv 0)) mr_nil))) (blkOk_by (own := [("pause", 3)]) (N := n_least_cost) (sc := defScope s_least_cost) (by decide +kernel)) (fun _ _ _ _ _ => (mg_name sc_least_cost.nd rfl (by first | exact .inl rfl | exact .inr rfl) (by decide))) (fun _ _ _ _ _ => mts_nil) (fun _ _ _ _ _ => (me_min2 rfl (by rfl) T.b_min (me_var (pv 3)) (me_var (pv 1)))))))) (ma_cons (me_var (pv 2)) ma_nil)))))))
/-! thumb_cost -/
abbrev s_thumb_cost : Stmt := top 4
abbrev n_thumb_cost : List Str := ["works", "wake", "whole", "pause"]
theorem sc_thumb_cost : FnScope n_thumb_cost ["works", "wake"] (defScope s_thumb_cost) := ⟨rfl, rfl, rfl, by decide +kernel, rfl, by decide +kernel, by decide +kernel⟩
def l_thumb_cost_1 : SS := (sAsg 2 (sOp addD (sVar 2) (sIf (sTB (sOp leD (sVar 3) (sVar 1))) (sVar 3) (sOp mulD (sC (.int 2)) (sVar 1)))))
def t_thumb_cost_4 : SS := (sRet (sVar 2))
def t_thumb_cost_3 : SS := sSeq (sFor (iVal (sCall 1 m_pauses (rCons (sVar 0) rNil))) (gN 3) l_thumb_cost_1) t_thumb_cost_4
def t_thumb_cost_2 : SS := sSeq (sAsg 2 (sOp addD (sCall 1 m_own_minutes (rCons (sVar 0) rNil)) (sVar 1))) t_thumb_cost_3
def b_thumb_cost : SS := sSeq (sIfS (sNot (sTru (sVar 0))) (sRet (sC (.int 0))) sSkip) t_thumb_cost_2
def m_thumb_cost : Sm := semD 4 b_thumb_cost
theorem w_thumb_cost (T : Bt ⟨K, P, w⟩ mg) (d_own_minutes : Df P w K mg base "own_minutes" 2 ["works"] (spOf ⟨K, P, w⟩ m_own_minutes 1)) (d_pauses : Df P w K mg base "pauses" 2 ["works"] (spOf ⟨K, P, w⟩ m_pauses 1)) {f : Addr} {fd : FuncData} (F : Fun K "thumb_cost" "thumb_cost" s_thumb_cost f fd) : FnOk P w K mg base CX0 3 f fd ["works", "wake"] (spOf ⟨K, P, w⟩ m_thumb_cost 2) :=
  def_ok F sc_thumb_cost fun cdv A outer s H E hr => by
    have hu := hu65 hr
    have hr1 := hr.mono (by decide : 1 ≤ 2)
    exact (mss_cons (ms_if (mt_not (mt_tru (me_var (pv 0)))) (mss_one (ms_ret me_int)) mss_nil)
    (mss_cons (ms_set (i := 2) sc_thumb_cost.nd rfl (by first | exact .inl rfl | exact .inr rfl) (me_add (b := true) (me_callD d_own_minutes rfl (hr.mono (by decide)) rfl (mr_cons (me_var (pv 0)) mr_nil)) (me_var (pv 1))))
    (mss_cons (ms_for (ts := [3]) PassesOwn.never rfl (mi_val (me_callD d_pauses rfl (hr.mono (by decide)) rfl (mr_cons (me_var (pv 0)) mr_nil))) (mg_name sc_thumb_cost.nd rfl (by first | exact .inl rfl | exact .inr rfl) (by decide)) (mss_one (ms_set (i := 2) sc_thumb_cost.nd rfl (by first | exact .inl rfl | exact .inr rfl) (me_add (b := true) (me_var (pv 2)) (me_if (mt_c (b := true) (c_le hu) (me_var (pv 3)) (me_var (pv 1))) (me_var (pv 3)) (me_mul (b := true) me_int (me_var (pv 1))))))))
    (mss_one (ms_ret (me_var (pv 2)))))))
/-! limited_cost -/
abbrev s_limited_cost : Stmt := top 5
abbrev n_limited_cost : List Str := ["works", "wake", "limit", "told", "saving", "number", "pause", "off", "_", "whole"]
theorem sc_limited_cost : FnScope n_limited_cost ["works", "wake", "limit"] (defScope s_limited_cost) := ⟨rfl, rfl, rfl, by decide +kernel, rfl, by decide +kernel, by decide +kernel⟩
def l_limited_cost_1 : SS := (sAsg 9 (sOp addD (sVar 9) (sIf (sTB (sOp inD (sVar 5) (sVar 7))) (sVar 1) (sVar 6))))
def t_limited_cost_7 : SS := (sRet (sTup (sCons (sVar 9) (sCons (sUn tupD (sFr (sLc (iR1 (sUn lenD (sVar 3))) [5] (gN 5) tYes' (sIf (sTB (sOp inD (sVar 5) (sVar 7))) (sC (.str "off")) (sC (.str "on")))))) sNil))))
def t_limited_cost_6 : SS := sSeq (sFor (iEn 0 (sVar 3)) (gT 2 (gCo (gN 5) (gCo (gN 6) gNo))) l_limited_cost_1) t_limited_cost_7
def t_limited_cost_5 : SS := sSeq (sAsg 9 (sOp addD (sCall 1 m_own_minutes (rCons (sVar 0) rNil)) (sVar 1))) t_limited_cost_6
def t_limited_cost_4 : SS := sSeq (sAsg 7 (sFr (sLc (iVal (sSl (sVar 4) sNo (sPart (sOp subD (sVar 2) (sC (.int 1)))))) [8, 5] (gT 2 (gCo (gN 8) (gCo (gN 5) gNo))) tYes' (sVar 5)))) t_limited_cost_5
def t_limited_cost_3 : SS := sSeq (sAsg 4 (sFr (sSort (sFr (sLc (iEn 0 (sVar 3)) [5, 6] (gT 2 (gCo (gN 5) (gCo (gN 6) gNo))) (sTB (sOp gtD (sVar 6) (sVar 1))) (sTup (sCons (sOp subD (sVar 1) (sVar 6)) (sCons (sVar 5) sNil)))))))) t_limited_cost_4
def t_limited_cost_2 : SS := sSeq (sAsg 3 (sCall 1 m_pauses (rCons (sVar 0) rNil))) t_limited_cost_3
def b_limited_cost : SS := sSeq (sIfS (sNot (sTru (sVar 0))) (sRet (sTup (sCons (sC (.int 0)) (sCons (sTup sNil) sNil)))) sSkip) t_limited_cost_2
def m_limited_cost : Sm := semD 10 b_limited_cost
theorem w_limited_cost (T : Bt ⟨K, P, w⟩ mg) (d_pauses : Df P w K mg base "pauses" 2 ["works"] (spOf ⟨K, P, w⟩ m_pauses 1)) (d_own_minutes : Df P w K mg base "own_minutes" 2 ["works"] (spOf ⟨K, P, w⟩ m_own_minutes 1)) {f : Addr} {fd : FuncData} (F : Fun K "limited_cost" "limited_cost" s_limited_cost f fd) : FnOk P w K mg base CX0 3 f fd ["works", "wake", "limit"] (spOf ⟨K, P, w⟩ m_limited_cost 3) :=
  def_ok F sc_limited_cost fun cdv A outer s H E hr => by
    have hu := hu65 hr
    have hr1 := hr.mono (by decide : 1 ≤ 2)
    exact (mss_cons (ms_if (mt_not (mt_tru (me_var (pv 0)))) (mss_one (ms_ret (me_tup (ma_cons me_int (ma_cons (me_tup ma_nil) ma_nil))))) mss_nil)
    (mss_cons (ms_set (i := 3) sc_limited_cost.nd rfl (by first | exact .inl rfl | exact .inr rfl) (me_callD d_pauses rfl (hr.mono (by decide)) rfl (mr_cons (me_var (pv 0)) mr_nil)))
    (mss_cons (ms_set (i := 4) sc_limited_cost.nd rfl (by first | exact .inl rfl | exact .inr rfl) (me_f (mf_sorted hu (by rfl) T.b_sorted (me_f (mf_lc (own := [("number", 5), ("pause", 6)]) rfl sc_limited_cost.nd (mi_en (by rfl) T.b_enumerate (me_var (pv 3))) (blkOk_by (own := [("number", 5), ("pause", 6)]) (N := n_limited_cost) (sc := defScope s_limited_cost) (by decide +kernel)) (fun _ _ _ _ _ => (mg_tup rfl (mgs_cons (mg_name sc_limited_cost.nd rfl (by first | exact .inl rfl | exact .inr rfl) (by decide)) (mgs_cons (mg_name sc_limited_cost.nd rfl (by first | exact .inl rfl | exact .inr rfl) (by decide)) mgs_nil)))) (fun _ _ _ _ _ => (mts_one (mt_c (b := true) (c_gt hu) (me_var (pv 6)) (me_var (pv 1))))) (fun _ _ _ _ _ => (me_tup (ma_cons (me_sub (b := true) (me_var (pv 1)) (me_var (pv 6))) (ma_cons (me_var (pv 5)) ma_nil)))))))))
    (mss_cons (ms_set (i := 7) sc_limited_cost.nd rfl (by first | exact .inl rfl | exact .inr rfl) (me_f (mf_lc (own := [("_", 8), ("number", 5)]) rfl sc_limited_cost.nd (mi_val (me_sl (me_var (pv 4)) mo_none (mo_some (me_sub (b := true) (me_var (pv 2)) me_int)))) (blkOk_by (own := [("_", 8), ("number", 5)]) (N := n_limited_cost) (sc := defScope s_limited_cost) (by decide +kernel)) (fun _ _ _ _ _ => (mg_tup rfl (mgs_cons (mg_name sc_limited_cost.nd rfl (by first | exact .inl rfl | exact .inr rfl) (by decide)) (mgs_cons (mg_name sc_limited_cost.nd rfl (by first | exact .inl rfl | exact .inr rfl) (by decide)) mgs_nil)))) (fun _ _ _ _ _ => mts_nil) (fun _ _ _ _ _ => (me_var (pv 5))))))
    (mss_cons (ms_set (i := 9) sc_limited_cost.nd rfl (by first | exact .inl rfl | exact .inr rfl) (me_add (b := true) (me_callD d_own_minutes rfl (hr.mono (by decide)) rfl (mr_cons (me_var (pv 0)) mr_nil)) (me_var (pv 1))))
    (mss_cons (ms_for (ts := [5, 6]) PassesOwn.never rfl (mi_en (by rfl) T.b_enumerate (me_var (pv 3))) (mg_tup rfl (mgs_cons (mg_name sc_limited_cost.nd rfl (by first | exact .inl rfl | exact .inr rfl) (by decide)) (mgs_cons (mg_name sc_limited_cost.nd rfl (by first | exact .inl rfl | exact .inr rfl) (by decide)) mgs_nil))) (mss_one (ms_set (i := 9) sc_limited_cost.nd rfl (by first | exact .inl rfl | exact .inr rfl) (me_add (b := true) (me_var (pv 9)) (me_if (mt_c (b := true) (c_in hu) (me_var (pv 5)) (me_var (pv 7))) (me_var (pv 1)) (me_var (pv 6)))))))
    (mss_one (ms_ret (me_tup (ma_cons (me_var (pv 9)) (ma_cons (me_tuple (by rfl) T.b_tuple (me_f (mf_lc (own := [("number", 5)]) rfl sc_limited_cost.nd (mi_r1 (by rfl) T.b_range (me_len (by rfl) T.b_len (me_var (pv 3)))) (blkOk_by (own := [("number", 5)]) (N := n_limited_cost) (sc := defScope s_limited_cost) (by decide +kernel)) (fun _ _ _ _ _ => (mg_name sc_limited_cost.nd rfl (by first | exact .inl rfl | exact .inr rfl) (by decide))) (fun _ _ _ _ _ => mts_nil) (fun _ _ _ _ _ => (me_if (mt_c (b := true) (c_in hu) (me_var (pv 5)) (me_var (pv 7))) (me_str) (me_str)))))) ma_nil)))))))))))
/-! polls -/
abbrev s_polls : Stmt := top 7
abbrev n_polls : List Str := ["first", "period", "end"]
theorem sc_polls : FnScope n_polls ["first", "period", "end"] (defScope s_polls) := ⟨rfl, rfl, rfl, by decide +kernel, rfl, by decide +kernel, by decide +kernel⟩
def b_polls : SS := (sRet (sFr (iR3 (sVar 0) (sOp addD (sVar 2) (sC (.int 1))) (sVar 1))))
def m_polls : Sm := semD 3 b_polls
theorem w_polls (T : Bt ⟨K, P, w⟩ mg)  {f : Addr} {fd : FuncData} (F : Fun K "polls" "polls" s_polls f fd) : FnOk P w K mg base CX0 2 f fd ["first", "period", "end"] (spOf ⟨K, P, w⟩ m_polls 3) :=
  def_ok F sc_polls fun cdv A outer s H E hr => by
    have hu := hu65 hr
    have hr1 := hr.mono (by decide : 1 ≤ 1)
    exact (mss_one (ms_ret (me_f (mf_lR3 rfl (by rfl) T.b_list (by rfl) T.b_range (me_var (pv 0)) (me_add (b := true) (me_var (pv 2)) me_int) (me_var (pv 1))))))
/-! delays -/
abbrev s_delays : Stmt := top 8
abbrev n_delays : List Str := ["changes", "minutes", "found", "change", "later", "minute"]
theorem sc_delays : FnScope n_delays ["changes", "minutes"] (defScope s_delays) := ⟨rfl, rfl, rfl, by decide +kernel, rfl, by decide +kernel, by decide +kernel⟩
def l_delays_1 : SS := (sSeq (sAsg 4 (sFr (sLc (iVal (sVar 1)) [5] (gN 5) (sTB (sOp geD (sVar 5) (sVar 3))) (sVar 5))))
    (sApp 2 (sIf (sTru (sVar 4)) (sOp subD (sOp ixD (sVar 4) (sC (.int 0))) (sVar 3)) (sC .none))))
def t_delays_3 : SS := (sRet (sUn tupD (sBor 2)))
def t_delays_2 : SS := sSeq (sFor (iVal (sVar 0)) (gN 3) l_delays_1) t_delays_3
def b_delays : SS := sSeq (sOwn 2 (sItems sNil)) t_delays_2
def m_delays : Sm := semD 6 b_delays
theorem w_delays (T : Bt ⟨K, P, w⟩ mg)  {f : Addr} {fd : FuncData} (F : Fun K "delays" "delays" s_delays f fd) : FnOk P w K mg base CX0 2 f fd ["changes", "minutes"] (spOf ⟨K, P, w⟩ m_delays 2) :=
  def_ok F sc_delays fun cdv A outer s H E hr => by
    have hu := hu65 hr
    have hr1 := hr.mono (by decide : 1 ≤ 1)
    exact (mss_cons (ms_own sc_delays.nd rfl (by first | exact .inl rfl | exact .inr rfl) (mf_lst ma_nil))
    (mss_cons (ms_for (ts := [3]) PassesOwn.never rfl (mi_val (me_var (pv 0))) (mg_name sc_delays.nd rfl (by first | exact .inl rfl | exact .inr rfl) (by decide)) (mss_cons (ms_lcV (i := 4) (own := [("minute", 5)]) rfl sc_delays.nd rfl rfl (sw_true rfl rfl rfl (by decide +kernel)) (mi_val (me_var (pv 1))) (blkOk_by (own := [("minute", 5)]) (N := n_delays) (sc := defScope s_delays) (by decide +kernel)) (fun _ _ _ _ _ => (mg_name sc_delays.nd rfl (by first | exact .inl rfl | exact .inr rfl) (by decide))) (fun _ _ _ _ _ => (mts_one (mt_c (b := true) (c_ge hu) (me_var (pv 5)) (me_var (pv 3))))) (fun _ _ _ _ _ => (me_var (pv 5))))
    (mss_one (ms_app (pv 2) (me_if (mt_tru (me_var (pv 4))) (me_sub (b := true) (me_ix (me_var (pv 4)) me_int) (me_var (pv 3))) me_non)))))
    (mss_one (ms_ret (me_tuple (by rfl) T.b_tuple (me_bor (pv 2)))))))
/-! cost_of -/
abbrev s_cost_of : Stmt := top 9
abbrev n_cost_of : List Str := ["changes", "period", "end", "price", "miss", "minutes", "whole", "delay"]
theorem sc_cost_of : FnScope n_cost_of ["changes", "period", "end", "price", "miss"] (defScope s_cost_of) := ⟨rfl, rfl, rfl, by decide +kernel, rfl, by decide +kernel, by decide +kernel⟩
def l_cost_of_1 : SS := (sAsg 6 (sOp addD (sVar 6) (sIf (sTB (sOp isD (sVar 7) (sC .none))) (sVar 4) (sVar 7))))
def t_cost_of_4 : SS := (sRet (sVar 6))
def t_cost_of_3 : SS := sSeq (sFor (iVal (sCall 2 m_delays (rCons (sVar 0) (rCons (sVar 5) rNil)))) (gN 7) l_cost_of_1) t_cost_of_4
def t_cost_of_2 : SS := sSeq (sAsg 6 (sOp mulD (sVar 3) (sUn lenD (sVar 5)))) t_cost_of_3
def b_cost_of : SS := sSeq (sAsg 5 (sCall 3 m_polls (rCons (sC (.int 0)) (rCons (sVar 1) (rCons (sVar 2) rNil))))) t_cost_of_2
def m_cost_of : Sm := semD 8 b_cost_of
theorem w_cost_of (T : Bt ⟨K, P, w⟩ mg) (d_polls : Df P w K mg base "polls" 2 ["first", "period", "end"] (spOf ⟨K, P, w⟩ m_polls 3)) (d_delays : Df P w K mg base "delays" 2 ["changes", "minutes"] (spOf ⟨K, P, w⟩ m_delays 2)) {f : Addr} {fd : FuncData} (F : Fun K "cost_of" "cost_of" s_cost_of f fd) : FnOk P w K mg base CX0 3 f fd ["changes", "period", "end", "price", "miss"] (spOf ⟨K, P, w⟩ m_cost_of 5) :=
  def_ok F sc_cost_of fun cdv A outer s H E hr => by
    have hu := hu65 hr
    have hr1 := hr.mono (by decide : 1 ≤ 2)
    exact (mss_cons (ms_set (i := 5) sc_cost_of.nd rfl (by first | exact .inl rfl | exact .inr rfl) (me_callD d_polls rfl (hr.mono (by decide)) rfl (mr_cons me_int (mr_cons (me_var (pv 1)) (mr_cons (me_var (pv 2)) mr_nil)))))
    (mss_cons (ms_set (i := 6) sc_cost_of.nd rfl (by first | exact .inl rfl | exact .inr rfl) (me_mul (b := true) (me_var (pv 3)) (me_len (by rfl) T.b_len (me_var (pv 5)))))
    (mss_cons (ms_for (ts := [7]) PassesOwn.never rfl (mi_val (me_callD d_delays rfl (hr.mono (by decide)) rfl (mr_cons (me_var (pv 0)) (mr_cons (me_var (pv 5)) mr_nil)))) (mg_name sc_cost_of.nd rfl (by first | exact .inl rfl | exact .inr rfl) (by decide)) (mss_one (ms_set (i := 6) sc_cost_of.nd rfl (by first | exact .inl rfl | exact .inr rfl) (me_add (b := true) (me_var (pv 6)) (me_if (mt_c (b := true) c_is (me_var (pv 7)) me_non) (me_var (pv 4)) (me_var (pv 7)))))))
    (mss_one (ms_ret (me_var (pv 6)))))))
/-! best_period -/
abbrev s_best_period : Stmt := top 10
abbrev n_best_period : List Str := ["changes", "end", "price", "miss", "most", "best", "period", "told"]
theorem sc_best_period : FnScope n_best_period ["changes", "end", "price", "miss", "most"] (defScope s_best_period) := ⟨rfl, rfl, rfl, by decide +kernel, rfl, by decide +kernel, by decide +kernel⟩
def l_best_period_1 : SS := (sSeq (sAsg 7 (sCall 5 m_cost_of (rCons (sVar 0) (rCons (sVar 6) (rCons (sVar 1) (rCons (sVar 2) (rCons (sVar 3) rNil)))))))
    (sIfS (sOr (sTB (sOp isD (sVar 5) (sC .none))) (sTB (sOp leD (sVar 7) (sOp ixD (sVar 5) (sC (.int 0)))))) (sAsg 5 (sTup (sCons (sVar 7) (sCons (sVar 6) sNil)))) sSkip))
def t_best_period_3 : SS := (sRet (sVar 5))
def t_best_period_2 : SS := sSeq (sFor (iR2 (sC (.int 1)) (sOp addD (sVar 4) (sC (.int 1)))) (gN 6) l_best_period_1) t_best_period_3
def b_best_period : SS := sSeq (sAsg 5 (sC .none)) t_best_period_2
def m_best_period : Sm := semD 8 b_best_period
theorem w_best_period (T : Bt ⟨K, P, w⟩ mg) (d_cost_of : Df P w K mg base "cost_of" 3 ["changes", "period", "end", "price", "miss"] (spOf ⟨K, P, w⟩ m_cost_of 5)) {f : Addr} {fd : FuncData} (F : Fun K "best_period" "best_period" s_best_period f fd) : FnOk P w K mg base CX0 4 f fd ["changes", "end", "price", "miss", "most"] (spOf ⟨K, P, w⟩ m_best_period 5) :=
  def_ok F sc_best_period fun cdv A outer s H E hr => by
    have hu := hu65 hr
    have hr1 := hr.mono (by decide : 1 ≤ 3)
    exact (mss_cons (ms_set (i := 5) sc_best_period.nd rfl (by first | exact .inl rfl | exact .inr rfl) me_non)
    (mss_cons (ms_for (ts := [6]) PassesOwn.never rfl (mi_r2 (by rfl) T.b_range me_int (me_add (b := true) (me_var (pv 4)) me_int)) (mg_name sc_best_period.nd rfl (by first | exact .inl rfl | exact .inr rfl) (by decide)) (mss_cons (ms_set (i := 7) sc_best_period.nd rfl (by first | exact .inl rfl | exact .inr rfl) (me_callD d_cost_of rfl (hr.mono (by decide)) rfl (mr_cons (me_var (pv 0)) (mr_cons (me_var (pv 6)) (mr_cons (me_var (pv 1)) (mr_cons (me_var (pv 2)) (mr_cons (me_var (pv 3)) mr_nil)))))))
    (mss_one (ms_if (mt_w (mw_or (mt_c (b := true) c_is (me_var (pv 5)) me_non) (mw_or1 (mt_c (b := true) (c_le hu) (me_var (pv 7)) (me_ix (me_var (pv 5)) me_int))))) (mss_one (ms_set (i := 5) sc_best_period.nd rfl (by first | exact .inl rfl | exact .inr rfl) (me_tup (ma_cons (me_var (pv 7)) (ma_cons (me_var (pv 6)) ma_nil))))) mss_nil))))
    (mss_one (ms_ret (me_var (pv 5))))))
/-! idle_polls -/
abbrev s_idle_polls : Stmt := top 11
abbrev n_idle_polls : List Str := ["changes", "minutes", "found", "before", "minute", "change"]
theorem sc_idle_polls : FnScope n_idle_polls ["changes", "minutes"] (defScope s_idle_polls) := ⟨rfl, rfl, rfl, by decide +kernel, rfl, by decide +kernel, by decide +kernel⟩
def l_idle_polls_1 : SS := (sSeq (sApp 2 (sNotV (sUn anyD (sFr (sLc (iVal (sVar 0)) [5] (gN 5) tYes' (sChain ltD leD (sVar 3) (sVar 5) (sVar 4)))))))
    (sAsg 3 (sVar 4)))
def t_idle_polls_4 : SS := (sFz 2 (sRet (sVar 2)))
def t_idle_polls_3 : SS := sSeq (sFor (iVal (sVar 1)) (gN 4) l_idle_polls_1) t_idle_polls_4
def t_idle_polls_2 : SS := sSeq (sAsg 3 (sUn negD (sC (.int 1)))) t_idle_polls_3
def b_idle_polls : SS := sSeq (sOwn 2 (sItems sNil)) t_idle_polls_2
def m_idle_polls : Sm := semD 6 b_idle_polls
theorem w_idle_polls (T : Bt ⟨K, P, w⟩ mg)  {f : Addr} {fd : FuncData} (F : Fun K "idle_polls" "idle_polls" s_idle_polls f fd) : FnOk P w K mg base CX0 2 f fd ["changes", "minutes"] (spOf ⟨K, P, w⟩ m_idle_polls 2) :=
  def_ok F sc_idle_polls fun cdv A outer s H E hr => by
    have hu := hu65 hr
    have hr1 := hr.mono (by decide : 1 ≤ 1)
    exact (mss_cons (ms_own sc_idle_polls.nd rfl (by first | exact .inl rfl | exact .inr rfl) (mf_lst ma_nil))
    (mss_cons (ms_set (i := 3) sc_idle_polls.nd rfl (by first | exact .inl rfl | exact .inr rfl) (me_neg (b := true) me_int))
    (mss_cons (ms_for (ts := [4]) PassesOwn.never rfl (mi_val (me_var (pv 1))) (mg_name sc_idle_polls.nd rfl (by first | exact .inl rfl | exact .inr rfl) (by decide)) (mss_cons (ms_app (pv 2) (me_not (me_any rfl (by rfl) T.b_any (me_f (mf_lc (own := [("change", 5)]) rfl sc_idle_polls.nd (mi_val (me_var (pv 0))) (blkOk_by (own := [("change", 5)]) (N := n_idle_polls) (sc := defScope s_idle_polls) (by decide +kernel)) (fun _ _ _ _ _ => (mg_name sc_idle_polls.nd rfl (by first | exact .inl rfl | exact .inr rfl) (by decide))) (fun _ _ _ _ _ => mts_nil) (fun _ _ _ _ _ => (me_ch (b := true) (c_lt hu) (c_le hu) (me_var (pv 3)) (me_var (pv 5)) (me_var (pv 4)))))))))
    (mss_one (ms_set (i := 3) sc_idle_polls.nd rfl (by first | exact .inl rfl | exact .inr rfl) (me_var (pv 4))))))
    (mss_one (ms_fz 2 (ms_ret (me_var (pv 2))))))))
/-! longest_idle -/
abbrev s_longest_idle : Stmt := top 12
abbrev n_longest_idle : List Str := ["changes", "minutes", "best", "begin", "place", "idle"]
theorem sc_longest_idle : FnScope n_longest_idle ["changes", "minutes"] (defScope s_longest_idle) := ⟨rfl, rfl, rfl, by decide +kernel, rfl, by decide +kernel, by decide +kernel⟩
def l_longest_idle_1 : SS := (sIfS (sNot (sTru (sVar 5))) (sAsg 3 (sC .none)) (sSeq (sAsg 3 (sIf (sTB (sOp isD (sVar 3) (sC .none))) (sVar 4) (sVar 3)))
    (sIfS (sOr (sTB (sOp isD (sVar 2) (sC .none))) (sTB (sOp gtD (sOp subD (sVar 4) (sVar 3)) (sOp subD (sOp ixD (sVar 2) (sC (.int 1))) (sOp ixD (sVar 2) (sC (.int 0))))))) (sAsg 2 (sTup (sCons (sVar 3) (sCons (sVar 4) sNil)))) sSkip)))
def t_longest_idle_4 : SS := (sRet (sIf (sTB (sOp isD (sVar 2) (sC .none))) (sC .none) (sTup (sCons (sOp ixD (sVar 1) (sOp ixD (sVar 2) (sC (.int 0)))) (sCons (sOp ixD (sVar 1) (sOp ixD (sVar 2) (sC (.int 1)))) sNil)))))
def t_longest_idle_3 : SS := sSeq (sFor (iEn 0 (sCall 2 m_idle_polls (rCons (sVar 0) (rCons (sVar 1) rNil)))) (gT 2 (gCo (gN 4) (gCo (gN 5) gNo))) l_longest_idle_1) t_longest_idle_4
def t_longest_idle_2 : SS := sSeq (sAsg 3 (sC .none)) t_longest_idle_3
def b_longest_idle : SS := sSeq (sAsg 2 (sC .none)) t_longest_idle_2
def m_longest_idle : Sm := semD 6 b_longest_idle
theorem w_longest_idle (T : Bt ⟨K, P, w⟩ mg) (d_idle_polls : Df P w K mg base "idle_polls" 2 ["changes", "minutes"] (spOf ⟨K, P, w⟩ m_idle_polls 2)) {f : Addr} {fd : FuncData} (F : Fun K "longest_idle" "longest_idle" s_longest_idle f fd) : FnOk P w K mg base CX0 3 f fd ["changes", "minutes"] (spOf ⟨K, P, w⟩ m_longest_idle 2) :=
  def_ok F sc_longest_idle fun cdv A outer s H E hr => by
    have hu := hu65 hr
    have hr1 := hr.mono (by decide : 1 ≤ 2)
    exact (mss_cons (ms_set (i := 2) sc_longest_idle.nd rfl (by first | exact .inl rfl | exact .inr rfl) me_non)
    (mss_cons (ms_set (i := 3) sc_longest_idle.nd rfl (by first | exact .inl rfl | exact .inr rfl) me_non)
    (mss_cons (ms_for (ts := [4, 5]) PassesOwn.never rfl (mi_en (by rfl) T.b_enumerate (me_callD d_idle_polls rfl (hr.mono (by decide)) rfl (mr_cons (me_var (pv 0)) (mr_cons (me_var (pv 1)) mr_nil)))) (mg_tup rfl (mgs_cons (mg_name sc_longest_idle.nd rfl (by first | exact .inl rfl | exact .inr rfl) (by decide)) (mgs_cons (mg_name sc_longest_idle.nd rfl (by first | exact .inl rfl | exact .inr rfl) (by decide)) mgs_nil))) (mss_one (ms_if (mt_not (mt_tru (me_var (pv 5)))) (mss_one (ms_set (i := 3) sc_longest_idle.nd rfl (by first | exact .inl rfl | exact .inr rfl) me_non)) (mss_cons (ms_set (i := 3) sc_longest_idle.nd rfl (by first | exact .inl rfl | exact .inr rfl) (me_if (mt_c (b := true) c_is (me_var (pv 3)) me_non) (me_var (pv 4)) (me_var (pv 3))))
    (mss_one (ms_if (mt_w (mw_or (mt_c (b := true) c_is (me_var (pv 2)) me_non) (mw_or1 (mt_c (b := true) (c_gt hu) (me_sub (b := true) (me_var (pv 4)) (me_var (pv 3))) (me_sub (b := true) (me_ix (me_var (pv 2)) me_int) (me_ix (me_var (pv 2)) me_int)))))) (mss_one (ms_set (i := 2) sc_longest_idle.nd rfl (by first | exact .inl rfl | exact .inr rfl) (me_tup (ma_cons (me_var (pv 3)) (ma_cons (me_var (pv 4)) ma_nil))))) mss_nil))))))
    (mss_one (ms_ret (me_if (mt_c (b := true) c_is (me_var (pv 2)) me_non) me_non (me_tup (ma_cons (me_ix (me_var (pv 1)) (me_ix (me_var (pv 2)) me_int)) (ma_cons (me_ix (me_var (pv 1)) (me_ix (me_var (pv 2)) me_int)) ma_nil)))))))))
/-! backing_off -/
abbrev s_backing_off : Stmt := top 13
abbrev n_backing_off : List Str := ["changes", "end", "most", "found", "before", "minute", "period", "change"]
theorem sc_backing_off : FnScope n_backing_off ["changes", "end", "most"] (defScope s_backing_off) := ⟨rfl, rfl, rfl, by decide +kernel, rfl, by decide +kernel, by decide +kernel⟩
def v_backing_off_1 : SS := (sSeq (sIfS (sTru (sUn anyD (sFr (sLc (iVal (sVar 0)) [7] (gN 7) tYes' (sChain ltD leD (sVar 4) (sVar 7) (sVar 5)))))) (sAsg 6 (sC (.int 1))) (sAsg 6 (sOp min2D (sVar 2) (sOp mulD (sC (.int 2)) (sVar 6)))))
    (sAsgG (sTup (sCons (sVar 5) (sCons (sOp addD (sVar 5) (sVar 6)) sNil))) (gT 2 (gCo (gN 4) (gCo (gN 5) gNo)))))
def l_backing_off_1 : SS := (sSeq (sApp 3 (sVar 5))
    v_backing_off_1)
def t_backing_off_4 : SS := (sFz 3 (sRet (sVar 3)))
def t_backing_off_3 : SS := sSeq (sWhile (sTB (sOp leD (sVar 5) (sVar 1))) l_backing_off_1) t_backing_off_4
def t_backing_off_2 : SS := sSeq (sAsgG (sTup (sCons (sUn negD (sC (.int 1))) (sCons (sC (.int 0)) (sCons (sC (.int 1)) sNil)))) (gT 3 (gCo (gN 4) (gCo (gN 5) (gCo (gN 6) gNo))))) t_backing_off_3
def b_backing_off : SS := sSeq (sOwn 3 (sItems sNil)) t_backing_off_2
def m_backing_off : Sm := semD 8 b_backing_off
theorem w_backing_off (T : Bt ⟨K, P, w⟩ mg)  {f : Addr} {fd : FuncData} (F : Fun K "backing_off" "backing_off" s_backing_off f fd) : FnOk P w K mg base CX0 2 f fd ["changes", "end", "most"] (spOf ⟨K, P, w⟩ m_backing_off 3) :=
  def_ok F sc_backing_off fun cdv A outer s H E hr => by
    have hu := hu65 hr
    have hr1 := hr.mono (by decide : 1 ≤ 1)
    exact (mss_cons (ms_own sc_backing_off.nd rfl (by first | exact .inl rfl | exact .inr rfl) (mf_lst ma_nil))
    (mss_cons (ms_asg (ts := [4, 5, 6]) (me_tup (ma_cons (me_neg (b := true) me_int) (ma_cons me_int (ma_cons me_int ma_nil)))) (mg_tup rfl (mgs_cons (mg_name sc_backing_off.nd rfl (by first | exact .inl rfl | exact .inr rfl) (by decide)) (mgs_cons (mg_name sc_backing_off.nd rfl (by first | exact .inl rfl | exact .inr rfl) (by decide)) (mgs_cons (mg_name sc_backing_off.nd rfl (by first | exact .inl rfl | exact .inr rfl) (by decide)) mgs_nil)))))
    (mss_cons (ms_while PassesOwn.never (mt_c (b := true) (c_le hu) (me_var (pv 5)) (me_var (pv 1))) (mss_cons (ms_app (pv 3) (me_var (pv 5)))
    (mss_cons (ms_if (mt_tru (me_any rfl (by rfl) T.b_any (me_f (mf_lc (own := [("change", 7)]) rfl sc_backing_off.nd (mi_val (me_var (pv 0))) (blkOk_by (own := [("change", 7)]) (N := n_backing_off) (sc := defScope s_backing_off) (by decide +kernel)) (fun _ _ _ _ _ => (mg_name sc_backing_off.nd rfl (by first | exact .inl rfl | exact .inr rfl) (by decide))) (fun _ _ _ _ _ => mts_nil) (fun _ _ _ _ _ => (me_ch (b := true) (c_lt hu) (c_le hu) (me_var (pv 4)) (me_var (pv 7)) (me_var (pv 5)))))))) (mss_one (ms_set (i := 6) sc_backing_off.nd rfl (by first | exact .inl rfl | exact .inr rfl) me_int)) (mss_one (ms_set (i := 6) sc_backing_off.nd rfl (by first | exact .inl rfl | exact .inr rfl) (me_min2 rfl (by rfl) T.b_min (me_var (pv 2)) (me_mul (b := true) me_int (me_var (pv 6)))))))
    (mss_one (ms_asg (ts := [4, 5]) (me_tup (ma_cons (me_var (pv 5)) (ma_cons (me_add (b := true) (me_var (pv 5)) (me_var (pv 6))) ma_nil))) (mg_tup rfl (mgs_cons (mg_name sc_backing_off.nd rfl (by first | exact .inl rfl | exact .inr rfl) (by decide)) (mgs_cons (mg_name sc_backing_off.nd rfl (by first | exact .inl rfl | exact .inr rfl) (by decide)) mgs_nil))))))))
    (mss_one (ms_fz 3 (ms_ret (me_var (pv 3))))))))
/-! _law_power -/
abbrev s__law_power : Stmt := top 18
abbrev n__law_power : List Str := [("draw" : Str), ("works" : Str), ("minute" : Str), ("k" : Str), ("wake" : Str), ("limit" : Str), ("rests" : Str), ("one" : Str), ("later" : Str), ("plans" : Str), ("rest" : Str), ("plan" : Str), ("word" : Str), ("base" : Str), ("first" : Str), ("last" : Str), ("costs" : Str), ("best" : Str), ("thumb" : Str), ("few" : Str), ("told" : Str), ("j" : Str)]
theorem sc__law_power : FnScope n__law_power ["draw"] (defScope s__law_power) := ⟨rfl, rfl, rfl, by decide +kernel, rfl, by decide +kernel, by decide +kernel⟩
def l__law_power_1 : SS := (sSeq (sApp 1 (sTup (sCons (sVar 2) (sCons (sOp addD (sOp addD (sVar 2) (sC (.int 1))) (sNext 0 (sC (.int 4)))) sNil))))
    (sAsg 2 (sOp addD (sOp addD (sOp ixD (sOp ixD (sBor 1) (sUn negD (sC (.int 1)))) (sC (.int 1))) (sC (.int 1))) (sNext 0 (sC (.int 9))))))
def l__law_power_2 : SS := (sAsg 9 (sFr (sLc (iVal (sOp addD (sFr (sLc (iVal (sVar 9)) [11] (gN 11) tYes' (sTup (sCons (sVar 11) (sCons (sC (.str "off")) sNil))))) (sFr (sLc (iVal (sVar 9)) [11] (gN 11) tYes' (sTup (sCons (sVar 11) (sCons (sC (.str "on")) sNil))))))) [11, 12] (gT 2 (gCo (gN 11) (gCo (gN 12) gNo))) tYes' (sOp addD (sVar 11) (sTup (sCons (sVar 12) sNil))))))
def l__law_power_3 : SS := (sIfS (sAnd (sTB (sOp eqD (sOp ixD (sOp ixD (sVar 20) (sC (.int 1))) (sVar 21)) (sC (.str "on")))) (sAnd (sTB (sOp eqD (sOp ixD (sOp ixD (sVar 20) (sC (.int 1))) (sVar 3)) (sC (.str "off")))) (sOr (sTB (sOp gtD (sOp ixD (sVar 6) (sVar 21)) (sOp ixD (sVar 6) (sVar 3)))) (sAnd (sTB (sOp eqD (sOp ixD (sVar 6) (sVar 21)) (sOp ixD (sVar 6) (sVar 3)))) (sTB (sOp ltD (sVar 21) (sVar 3))))))) (sRet (sC (.bool false))) sSkip)
def l__law_power_4 : SS := (sFor (iR1 (sUn lenD (sVar 6))) (gN 3) l__law_power_3)
def t__law_power_19 : SS := (sRet (sC (.bool true)))
def t__law_power_18 : SS := sSeq (sFor (iR1 (sUn lenD (sVar 6))) (gN 21) l__law_power_4) t__law_power_19
def t__law_power_17 : SS := sSeq (sIfS (sTru (sUn anyD (sFr (sLc (iZp (sOp ixD (sVar 20) (sC (.int 1))) (sVar 6)) [12, 10] (gT 2 (gCo (gN 12) (gCo (gN 10) gNo))) tYes' (sAndV (sOp eqD (sVar 12) (sC (.str "off"))) (sOp leD (sVar 10) (sVar 4))))))) (sRet (sC (.bool false))) sSkip) t__law_power_18
def t__law_power_16 : SS := sSeq (sIfS (sOr (sTB (sOp neD (sOp ixD (sVar 20) (sC (.int 0))) (sUn minD (sFr (sLc (iVal (sVar 19)) [7] (gN 7) tYes' (sTix (sVar 16) (sVar 7))))))) (sOr (sTB (sOp ninD (sOp ixD (sVar 20) (sC (.int 1))) (sVar 19))) (sTB (sOp neD (sTix (sVar 16) (sOp ixD (sVar 20) (sC (.int 1)))) (sOp ixD (sVar 20) (sC (.int 0))))))) (sRet (sC (.bool false))) sSkip) t__law_power_17
def t__law_power_15 : SS := sSeq (sFz 1 (sAsg 20 (sCall 3 m_limited_cost (rCons (sVar 1) (rCons (sVar 4) (rCons (sVar 5) rNil)))))) t__law_power_16
def t__law_power_14 : SS := sSeq (sAsg 19 (sFr (sLc (iVal (sVar 9)) [7] (gN 7) (sTB (sOp ltD (sCnt2 (sVar 7) (sC (.str "off"))) (sVar 5))) (sVar 7)))) t__law_power_15
def t__law_power_13 : SS := sSeq (sFz 1 (sIfS (sOr (sNot (sTru (sCall 2 m__law_same (rCons (sCall 2 m_thumb_cost (rCons (sVar 1) (rCons (sVar 4) rNil))) (rCons (sVar 18) rNil))))) (sTB (sOp gtD (sVar 18) (sOp mulD (sC (.int 2)) (sVar 17))))) (sRet (sC (.bool false))) sSkip)) t__law_power_14
def t__law_power_12 : SS := sSeq (sAsg 18 (sOp addD (sVar 13) (sUn sumD (sFr (sLc (iVal (sVar 6)) [10] (gN 10) tYes' (sIf (sTB (sOp leD (sVar 10) (sVar 4))) (sVar 10) (sOp addD (sVar 4) (sVar 4)))))))) t__law_power_13
def t__law_power_11 : SS := sSeq (sFz 1 (sIfS (sOr (sNot (sTru (sCall 2 m__law_same (rCons (sCall 2 m_least_cost (rCons (sVar 1) (rCons (sVar 4) rNil))) (rCons (sTup (sCons (sVar 17) (sCons (sVar 11) sNil))) rNil))))) (sTB (sOp neD (sTix (sVar 16) (sVar 11)) (sVar 17)))) (sRet (sC (.bool false))) sSkip)) t__law_power_12
def t__law_power_10 : SS := sSeq (sAsg 11 (sUn tupD (sFr (sLc (iVal (sVar 6)) [10] (gN 10) tYes' (sIf (sTB (sOp leD (sVar 4) (sVar 10))) (sC (.str "off")) (sC (.str "on"))))))) t__law_power_11
def t__law_power_9 : SS := sSeq (sAsg 17 (sUn minD (sFr (sLc (iVal (sVar 9)) [11] (gN 11) tYes' (sTix (sVar 16) (sVar 11)))))) t__law_power_10
def t__law_power_8 : SS := sSeq (sAsg 16 (sPairsT (sFr (sLc (iVal (sVar 9)) [11] (gN 11) tYes' (sTup (sCons (sVar 11) (sCons (sOp addD (sVar 13) (sUn sumD (sFr (sLc (iZp (sVar 11) (sVar 6)) [12, 10] (gT 2 (gCo (gN 12) (gCo (gN 10) gNo))) tYes' (sIf (sTB (sOp eqD (sVar 12) (sC (.str "off")))) (sVar 4) (sVar 10)))))) sNil))))))) t__law_power_9
def t__law_power_7 : SS := sSeq (sAsg 13 (sOp addD (sUn sumD (sFr (sLc (iVal (sBor 1)) [14, 15] (gT 2 (gCo (gN 14) (gCo (gN 15) gNo))) tYes' (sOp subD (sVar 15) (sVar 14))))) (sIf (sTru (sBor 1)) (sVar 4) (sC (.int 0))))) t__law_power_8
def t__law_power_6 : SS := sSeq (sFor (iVal (sVar 6)) (gN 10) l__law_power_2) t__law_power_7
def t__law_power_5 : SS := sSeq (sAsg 9 (sFr (sItems (sCons (sTup sNil) sNil)))) t__law_power_6
def t__law_power_4 : SS := sSeq (sAsg 6 (sFr (sLc (iZp (sBor 1) (sSl (sBor 1) (sPart (sC (.int 1))) sNo)) [7, 8] (gT 2 (gCo (gN 7) (gCo (gN 8) gNo))) tYes' (sOp subD (sOp ixD (sVar 8) (sC (.int 0))) (sOp ixD (sVar 7) (sC (.int 1))))))) t__law_power_5
def t__law_power_3 : SS := sSeq (sParX [1, 4, 5] (xV (sUn tupD (sBor 1)) (xV (sNext 0 (sC (.int 8))) (xV (sOp addD (sC (.int 1)) (sNext 0 (sC (.int 4)))) xNil)))) t__law_power_4
def t__law_power_2 : SS := sSeq (sFor (iR1 (sNext 0 (sC (.int 6)))) (gN 3) l__law_power_1) t__law_power_3
def b__law_power : SS := sSeq (sParX [1, 2] (xL (sItems sNil) (xV (sNext 0 (sC (.int 4))) xNil))) t__law_power_2
def m__law_power : Sm := semD 22 b__law_power
theorem w__law_power (T : Bt ⟨K, P, w⟩ mg) (d__law_next : Df P w K mg base "_law_next" 1 ["draw", "many"] spNext) (d__law_same : Df P w K mg base "_law_same" 9 ["actual", "due"] (spOf ⟨K, P, w⟩ m__law_same 2)) (d_least_cost : Df P w K mg base "least_cost" 3 ["works", "wake"] (spOf ⟨K, P, w⟩ m_least_cost 2)) (d_thumb_cost : Df P w K mg base "thumb_cost" 3 ["works", "wake"] (spOf ⟨K, P, w⟩ m_thumb_cost 2)) (d_limited_cost : Df P w K mg base "limited_cost" 3 ["works", "wake", "limit"] (spOf ⟨K, P, w⟩ m_limited_cost 3)) {f : Addr} {fd : FuncData} (F : Fun K "_law_power" "_law_power" s__law_power f fd) : FnOk P w K mg base CX0 10 f fd ["draw"] (spOf ⟨K, P, w⟩ m__law_power 1) :=
  def_ok F sc__law_power fun cdv A outer s H E hr => by
    have hu := hu65 hr
    have hr1 := hr.mono (by decide : 1 ≤ 9)
    exact (mss_cons (ms_parX rfl sc__law_power.nd rfl rfl (by decide) rfl rfl (mx_l (mf_lst ma_nil) (mx_v (me_nextD d__law_next hr1 (pv 0) me_int) mx_nil)) (by rfl))
    (mss_cons (ms_for (ts := [3]) PassesOwn.never rfl (mi_r1 (by rfl) T.b_range (me_nextD d__law_next hr1 (pv 0) me_int)) (mg_name sc__law_power.nd rfl (by first | exact .inl rfl | exact .inr rfl) (by decide)) (mss_cons (ms_app (pv 1) (me_tup (ma_cons (me_var (pv 2)) (ma_cons (me_add (b := true) (me_add (b := true) (me_var (pv 2)) me_int) (me_nextD d__law_next hr1 (pv 0) me_int)) ma_nil))))
    (mss_one (ms_set (i := 2) sc__law_power.nd rfl (by first | exact .inl rfl | exact .inr rfl) (me_add (b := true) (me_add (b := true) (me_ix (me_ix (me_bor (pv 1)) (me_neg (b := true) me_int)) me_int) me_int) (me_nextD d__law_next hr1 (pv 0) me_int))))))
    (mss_cons (ms_tupX (is := [1, 4, 5]) rfl sc__law_power.nd (.cons rfl (by first | exact .inl rfl | exact .inr rfl) (by first | exact .inl rfl | exact .inr rfl) (by rfl) (.cons rfl (by first | exact .inl rfl | exact .inr rfl) (by first | exact .inl rfl | exact .inr rfl) (by rfl) (.cons rfl (by first | exact .inl rfl | exact .inr rfl) (by first | exact .inl rfl | exact .inr rfl) (by rfl) .nil))) (mx_v (me_tuple (by rfl) T.b_tuple (me_bor (pv 1))) (mx_v (me_nextD d__law_next hr1 (pv 0) me_int) (mx_v (me_add (b := true) me_int (me_nextD d__law_next hr1 (pv 0) me_int)) mx_nil))))
    (mss_cons (ms_set (i := 6) sc__law_power.nd rfl (by first | exact .inl rfl | exact .inr rfl) (me_f (mf_lc (own := [("one", 7), ("later", 8)]) rfl sc__law_power.nd (mi_zip (by rfl) T.b_zip (me_bor (pv 1)) (me_sl (me_bor (pv 1)) (mo_some me_int) mo_none)) (blkOk_by (own := [("one", 7), ("later", 8)]) (N := n__law_power) (sc := defScope s__law_power) (by decide +kernel)) (fun _ _ _ _ _ => (mg_tup rfl (mgs_cons (mg_name sc__law_power.nd rfl (by first | exact .inl rfl | exact .inr rfl) (by decide)) (mgs_cons (mg_name sc__law_power.nd rfl (by first | exact .inl rfl | exact .inr rfl) (by decide)) mgs_nil)))) (fun _ _ _ _ _ => mts_nil) (fun _ _ _ _ _ => (me_sub (b := true) (me_ix (me_var (pv 8)) me_int) (me_ix (me_var (pv 7)) me_int))))))
    (mss_cons (ms_set (i := 9) sc__law_power.nd rfl (by first | exact .inl rfl | exact .inr rfl) (me_f (mf_lst (ma_cons (me_tup ma_nil) ma_nil))))
    (mss_cons (ms_for (ts := [10]) PassesOwn.never rfl (mi_val (me_var (pv 6))) (mg_name sc__law_power.nd rfl (by first | exact .inl rfl | exact .inr rfl) (by decide)) (mss_one (ms_lcV (i := 9) (own := [("plan", 11), ("word", 12)]) rfl sc__law_power.nd rfl rfl (sw_true rfl rfl rfl (by decide +kernel)) (mi_val (me_add (b := true) (me_f (mf_lc (own := [("plan", 11)]) rfl sc__law_power.nd (mi_val (me_var (pv 9))) (blkOk_by (own := [("plan", 11)]) (N := n__law_power) (sc := defScope s__law_power) (by decide +kernel)) (fun _ _ _ _ _ => (mg_name sc__law_power.nd rfl (by first | exact .inl rfl | exact .inr rfl) (by decide))) (fun _ _ _ _ _ => mts_nil) (fun _ _ _ _ _ => (me_tup (ma_cons (me_var (pv 11)) (ma_cons (me_str) ma_nil)))))) (me_f (mf_lc (own := [("plan", 11)]) rfl sc__law_power.nd (mi_val (me_var (pv 9))) (blkOk_by (own := [("plan", 11)]) (N := n__law_power) (sc := defScope s__law_power) (by decide +kernel)) (fun _ _ _ _ _ => (mg_name sc__law_power.nd rfl (by first | exact .inl rfl | exact .inr rfl) (by decide))) (fun _ _ _ _ _ => mts_nil) (fun _ _ _ _ _ => (me_tup (ma_cons (me_var (pv 11)) (ma_cons (me_str) ma_nil)))))))) (blkOk_by (own := [("plan", 11), ("word", 12)]) (N := n__law_power) (sc := defScope s__law_power) (by decide +kernel)) (fun _ _ _ _ _ => (mg_tup rfl (mgs_cons (mg_name sc__law_power.nd rfl (by first | exact .inl rfl | exact .inr rfl) (by decide)) (mgs_cons (mg_name sc__law_power.nd rfl (by first | exact .inl rfl | exact .inr rfl) (by decide)) mgs_nil)))) (fun _ _ _ _ _ => mts_nil) (fun _ _ _ _ _ => (me_add (b := true) (me_var (pv 11)) (me_tup (ma_cons (me_var (pv 12)) ma_nil)))))))
    (mss_cons (ms_set (i := 13) sc__law_power.nd rfl (by first | exact .inl rfl | exact .inr rfl) (me_add (b := true) (me_sum rfl (by rfl) T.b_sum (me_f (mf_lc (own := [("first", 14), ("last", 15)]) rfl sc__law_power.nd (mi_val (me_bor (pv 1))) (blkOk_by (own := [("first", 14), ("last", 15)]) (N := n__law_power) (sc := defScope s__law_power) (by decide +kernel)) (fun _ _ _ _ _ => (mg_tup rfl (mgs_cons (mg_name sc__law_power.nd rfl (by first | exact .inl rfl | exact .inr rfl) (by decide)) (mgs_cons (mg_name sc__law_power.nd rfl (by first | exact .inl rfl | exact .inr rfl) (by decide)) mgs_nil)))) (fun _ _ _ _ _ => mts_nil) (fun _ _ _ _ _ => (me_sub (b := true) (me_var (pv 15)) (me_var (pv 14))))))) (me_if (mt_tru (me_bor (pv 1))) (me_var (pv 4)) me_int)))
    (mss_cons (ms_set (i := 16) sc__law_power.nd rfl (by first | exact .inl rfl | exact .inr rfl) (me_pairsT rfl hu (by rfl) T.b_dict (me_f (mf_lc (own := [("plan", 11)]) rfl sc__law_power.nd (mi_val (me_var (pv 9))) (blkOk_by (own := [("plan", 11)]) (N := n__law_power) (sc := defScope s__law_power) (by decide +kernel)) (fun _ _ _ _ _ => (mg_name sc__law_power.nd rfl (by first | exact .inl rfl | exact .inr rfl) (by decide))) (fun _ _ _ _ _ => mts_nil) (fun _ _ _ _ _ => (me_tup (ma_cons (me_var (pv 11)) (ma_cons (me_add (b := true) (me_var (pv 13)) (me_sum rfl (by rfl) T.b_sum (me_f (mf_lc (own := [("word", 12), ("rest", 10)]) rfl sc__law_power.nd (mi_zip (by rfl) T.b_zip (me_var (pv 11)) (me_var (pv 6))) (blkOk_by (own := [("word", 12), ("rest", 10)]) (by rfl)) (fun _ _ _ _ _ => (mg_tup rfl (mgs_cons (mg_name sc__law_power.nd rfl (by first | exact .inl rfl | exact .inr rfl) (by decide)) (mgs_cons (mg_name sc__law_power.nd rfl (by first | exact .inl rfl | exact .inr rfl) (by decide)) mgs_nil)))) (fun _ _ _ _ _ => mts_nil) (fun _ _ _ _ _ => (me_if (mt_c (b := true) (c_eq hu) (me_var (pv 12)) (me_str)) (me_var (pv 4)) (me_var (pv 10)))))))) ma_nil))))))))
    (mss_cons (ms_set (i := 17) sc__law_power.nd rfl (by first | exact .inl rfl | exact .inr rfl) (me_min rfl (by rfl) T.b_min (me_f (mf_lc (own := [("plan", 11)]) rfl sc__law_power.nd (mi_val (me_var (pv 9))) (blkOk_by (own := [("plan", 11)]) (N := n__law_power) (sc := defScope s__law_power) (by decide +kernel)) (fun _ _ _ _ _ => (mg_name sc__law_power.nd rfl (by first | exact .inl rfl | exact .inr rfl) (by decide))) (fun _ _ _ _ _ => mts_nil) (fun _ _ _ _ _ => (me_tix hu (me_var (pv 16)) (me_var (pv 11))))))))
    (mss_cons (ms_set (i := 11) sc__law_power.nd rfl (by first | exact .inl rfl | exact .inr rfl) (me_tuple (by rfl) T.b_tuple (me_f (mf_lc (own := [("rest", 10)]) rfl sc__law_power.nd (mi_val (me_var (pv 6))) (blkOk_by (own := [("rest", 10)]) (N := n__law_power) (sc := defScope s__law_power) (by decide +kernel)) (fun _ _ _ _ _ => (mg_name sc__law_power.nd rfl (by first | exact .inl rfl | exact .inr rfl) (by decide))) (fun _ _ _ _ _ => mts_nil) (fun _ _ _ _ _ => (me_if (mt_c (b := true) (c_le hu) (me_var (pv 4)) (me_var (pv 10))) (me_str) (me_str)))))))
    (mss_cons (ms_fz 1 (ms_if (mt_w (mw_or (mt_not (mt_tru (me_callD d__law_same rfl (hr.mono (by decide)) rfl (mr_cons (me_callD d_least_cost rfl (hr.mono (by decide)) rfl (mr_cons (me_var (pv 1)) (mr_cons (me_var (pv 4)) mr_nil))) (mr_cons (me_tup (ma_cons (me_var (pv 17)) (ma_cons (me_var (pv 11)) ma_nil))) mr_nil))))) (mw_or1 (mt_c (b := true) (c_ne hu) (me_tix hu (me_var (pv 16)) (me_var (pv 11))) (me_var (pv 17)))))) (mss_one (ms_ret me_bl)) mss_nil))
    (mss_cons (ms_set (i := 18) sc__law_power.nd rfl (by first | exact .inl rfl | exact .inr rfl) (me_add (b := true) (me_var (pv 13)) (me_sum rfl (by rfl) T.b_sum (me_f (mf_lc (own := [("rest", 10)]) rfl sc__law_power.nd (mi_val (me_var (pv 6))) (blkOk_by (own := [("rest", 10)]) (N := n__law_power) (sc := defScope s__law_power) (by decide +kernel)) (fun _ _ _ _ _ => (mg_name sc__law_power.nd rfl (by first | exact .inl rfl | exact .inr rfl) (by decide))) (fun _ _ _ _ _ => mts_nil) (fun _ _ _ _ _ => (me_if (mt_c (b := true) (c_le hu) (me_var (pv 10)) (me_var (pv 4))) (me_var (pv 10)) (me_add (b := true) (me_var (pv 4)) (me_var (pv 4))))))))))
    (mss_cons (ms_fz 1 (ms_if (mt_w (mw_or (mt_not (mt_tru (me_callD d__law_same rfl (hr.mono (by decide)) rfl (mr_cons (me_callD d_thumb_cost rfl (hr.mono (by decide)) rfl (mr_cons (me_var (pv 1)) (mr_cons (me_var (pv 4)) mr_nil))) (mr_cons (me_var (pv 18)) mr_nil))))) (mw_or1 (mt_c (b := true) (c_gt hu) (me_var (pv 18)) (me_mul (b := true) me_int (me_var (pv 17))))))) (mss_one (ms_ret me_bl)) mss_nil))
    (mss_cons (ms_lcV (i := 19) (own := [("one", 7)]) rfl sc__law_power.nd rfl rfl (sw_true rfl rfl rfl (by decide +kernel)) (mi_val (me_var (pv 9))) (blkOk_by (own := [("one", 7)]) (N := n__law_power) (sc := defScope s__law_power) (by decide +kernel)) (fun _ _ _ _ _ => (mg_name sc__law_power.nd rfl (by first | exact .inl rfl | exact .inr rfl) (by decide))) (fun _ _ _ _ _ => (mts_one (mt_c (b := true) (c_lt hu) (me_cnt2 hu (me_var (pv 7)) (me_str)) (me_var (pv 5))))) (fun _ _ _ _ _ => (me_var (pv 7))))
    (mss_cons (ms_fz 1 (ms_set (i := 20) sc__law_power.nd rfl (by first | exact .inl rfl | exact .inr rfl) (me_callD d_limited_cost rfl (hr.mono (by decide)) rfl (mr_cons (me_var (pv 1)) (mr_cons (me_var (pv 4)) (mr_cons (me_var (pv 5)) mr_nil))))))
    (mss_cons (ms_if (mt_w (mw_or (mt_c (b := true) (c_ne hu) (me_ix (me_var (pv 20)) me_int) (me_min rfl (by rfl) T.b_min (me_f (mf_lc (own := [("one", 7)]) rfl sc__law_power.nd (mi_val (me_var (pv 19))) (blkOk_by (own := [("one", 7)]) (N := n__law_power) (sc := defScope s__law_power) (by decide +kernel)) (fun _ _ _ _ _ => (mg_name sc__law_power.nd rfl (by first | exact .inl rfl | exact .inr rfl) (by decide))) (fun _ _ _ _ _ => mts_nil) (fun _ _ _ _ _ => (me_tix hu (me_var (pv 16)) (me_var (pv 7)))))))) (mw_or (mt_c (b := true) (c_nin hu) (me_ix (me_var (pv 20)) me_int) (me_var (pv 19))) (mw_or1 (mt_c (b := true) (c_ne hu) (me_tix hu (me_var (pv 16)) (me_ix (me_var (pv 20)) me_int)) (me_ix (me_var (pv 20)) me_int)))))) (mss_one (ms_ret me_bl)) mss_nil)
    (mss_cons (ms_if (mt_tru (me_any rfl (by rfl) T.b_any (me_f (mf_lc (own := [("word", 12), ("rest", 10)]) rfl sc__law_power.nd (mi_zip (by rfl) T.b_zip (me_ix (me_var (pv 20)) me_int) (me_var (pv 6))) (blkOk_by (own := [("word", 12), ("rest", 10)]) (N := n__law_power) (sc := defScope s__law_power) (by decide +kernel)) (fun _ _ _ _ _ => (mg_tup rfl (mgs_cons (mg_name sc__law_power.nd rfl (by first | exact .inl rfl | exact .inr rfl) (by decide)) (mgs_cons (mg_name sc__law_power.nd rfl (by first | exact .inl rfl | exact .inr rfl) (by decide)) mgs_nil)))) (fun _ _ _ _ _ => mts_nil) (fun _ _ _ _ _ => (me_and (me_c (b := true) (c_eq hu) (me_var (pv 12)) (me_str)) (me_one (me_c (b := true) (c_le hu) (me_var (pv 10)) (me_var (pv 4)))))))))) (mss_one (ms_ret me_bl)) mss_nil)
    (mss_cons (ms_for (ts := [21]) PassesOwn.never rfl (mi_r1 (by rfl) T.b_range (me_len (by rfl) T.b_len (me_var (pv 6)))) (mg_name sc__law_power.nd rfl (by first | exact .inl rfl | exact .inr rfl) (by decide)) (mss_one (ms_for (ts := [3]) PassesOwn.never rfl (mi_r1 (by rfl) T.b_range (me_len (by rfl) T.b_len (me_var (pv 6)))) (mg_name sc__law_power.nd rfl (by first | exact .inl rfl | exact .inr rfl) (by decide)) (mss_one (ms_if (mt_w (mw_and (mt_c (b := true) (c_eq hu) (me_ix (me_ix (me_var (pv 20)) me_int) (me_var (pv 21))) (me_str)) (mw_and (mt_c (b := true) (c_eq hu) (me_ix (me_ix (me_var (pv 20)) me_int) (me_var (pv 3))) (me_str)) (mw_and1 (mt_w (mw_or (mt_c (b := true) (c_gt hu) (me_ix (me_var (pv 6)) (me_var (pv 21))) (me_ix (me_var (pv 6)) (me_var (pv 3)))) (mw_or1 (mt_w (mw_and (mt_c (b := true) (c_eq hu) (me_ix (me_var (pv 6)) (me_var (pv 21))) (me_ix (me_var (pv 6)) (me_var (pv 3)))) (mw_and1 (mt_c (b := true) (c_lt hu) (me_var (pv 21)) (me_var (pv 3))))))))))))) (mss_one (ms_ret me_bl)) mss_nil)))))
    (mss_one (ms_ret me_bl))))))))))))))))))))
/-! law -/
abbrev s_law : Stmt := top 19
abbrev n_law : List Str := [("script" : Str), ("draw" : Str), ("changes" : Str), ("k" : Str), ("first" : Str), ("period" : Str), ("end" : Str), ("minutes" : Str), ("one" : Str), ("due" : Str), ("change" : Str), ("later" : Str), ("price" : Str), ("miss" : Str), ("most" : Str), ("best" : Str), ("own" : Str), ("times" : Str), ("whole" : Str), ("idle" : Str), ("rows" : Str), ("j" : Str), ("before" : Str), ("found" : Str), ("now" : Str), ("step" : Str), ("seen" : Str)]
theorem sc_law : FnScope n_law ["script"] (defScope s_law) := ⟨rfl, rfl, rfl, by decide +kernel, rfl, by decide +kernel, by decide +kernel⟩
def l_law_1 : SS := (sSeq (sAsg 11 (sFr (sLc (iVal (sVar 7)) [8] (gN 8) (sTB (sOp geD (sVar 8) (sVar 10))) (sOp subD (sVar 8) (sVar 10)))))
    (sApp 9 (sIf (sTru (sVar 11)) (sOp ixD (sVar 11) (sC (.int 0))) (sC .none))))
def v_law_1 : SS := (sSeq (sIfS (sAnd (sTB (sOp eqD (sVar 16) (sVar 14))) (sNot (sTru (sCall 2 m__law_same (rCons (sCall 5 m_cost_of (rCons (sVar 2) (rCons (sVar 16) (rCons (sVar 6) (rCons (sVar 12) (rCons (sVar 13) rNil)))))) (rCons (sVar 18) rNil)))))) (sRet (sC (.bool false))) sSkip)
    (sAsg 15 (sIf (sOr (sTB (sOp isD (sVar 15) (sC .none))) (sTB (sOp leD (sVar 18) (sOp ixD (sVar 15) (sC (.int 0)))))) (sTup (sCons (sVar 18) (sCons (sVar 16) sNil))) (sVar 15))))
def v_law_2 : SS := (sSeq (sAsg 18 (sOp addD (sOp mulD (sVar 12) (sUn lenD (sVar 17))) (sUn sumD (sFr (sLc (iVal (sVar 2)) [10] (gN 10) tYes' (sIf (sTB (sOp leD (sVar 10) (sOp ixD (sVar 17) (sUn negD (sC (.int 1)))))) (sOp subD (sUn minD (sFr (sLc (iVal (sVar 17)) [8] (gN 8) (sTB (sOp geD (sVar 8) (sVar 10))) (sVar 8)))) (sVar 10)) (sVar 13)))))))
    v_law_1)
def l_law_2 : SS := (sSeq (sAsg 17 (sFr (iR3 (sC (.int 0)) (sOp addD (sVar 6) (sC (.int 1))) (sVar 16))))
    v_law_2)
def l_law_3 : SS := (sSeq (sAsg 22 (sIf (sTB (sOp gtD (sVar 21) (sC (.int 0)))) (sOp ixD (sVar 7) (sOp subD (sVar 21) (sC (.int 1)))) (sUn negD (sC (.int 1)))))
    (sApp 19 (sNotV (sUn anyD (sFr (sLc (iVal (sVar 2)) [10] (gN 10) tYes' (sChain ltD leD (sVar 22) (sVar 10) (sOp ixD (sVar 7) (sVar 21)))))))))
def l_law_4 : SS := (sAsg 20 (sOp addD (sVar 20) (sFr (sLc (iR2 (sVar 21) (sUn lenD (sVar 7))) [3] (gN 3) (sTru (sUn allD (sSl (sBor 19) (sPart (sVar 21)) (sPart (sOp addD (sVar 3) (sC (.int 1))))))) (sTup (sCons (sOp subD (sVar 21) (sVar 3)) (sCons (sVar 21) (sCons (sVar 3) sNil))))))))
def v_law_3 : SS := (sSeq (sAsg 25 (sIf (sTru (sFr (sLc (iVal (sVar 2)) [10] (gN 10) (sTB (sChain ltD leD (sVar 26) (sVar 10) (sVar 24))) (sVar 10)))) (sC (.int 1)) (sOp min2D (sVar 14) (sOp addD (sVar 25) (sVar 25)))))
    (sAsgG (sTup (sCons (sVar 24) (sCons (sOp addD (sVar 24) (sVar 25)) sNil))) (gT 2 (gCo (gN 26) (gCo (gN 24) gNo)))))
def l_law_5 : SS := (sSeq (sApp 23 (sVar 24))
    v_law_3)
def t_law_18 : SS := (sFz 23 (sRet (sCall 2 m__law_same (rCons (sCall 3 m_backing_off (rCons (sVar 2) (rCons (sVar 6) (rCons (sVar 14) rNil)))) (rCons (sVar 23) rNil)))))
def t_law_17 : SS := sSeq (sWhile (sTB (sOp leD (sVar 24) (sVar 6))) l_law_5) t_law_18
def t_law_16 : SS := sSeq (sParX [23, 24, 25, 26] (xL (sItems sNil) (xV (sC (.int 0)) (xV (sC (.int 1)) (xV (sUn negD (sC (.int 1))) xNil))))) t_law_17
def t_law_15 : SS := sSeq (sIfS (sNot (sTru (sCall 2 m__law_same (rCons (sCall 2 m_longest_idle (rCons (sVar 2) (rCons (sVar 7) rNil))) (rCons (sIf (sTru (sVar 20)) (sTup (sCons (sOp ixD (sVar 7) (sOp ixD (sBest false (sVar 20)) (sC (.int 1)))) (sCons (sOp ixD (sVar 7) (sOp ixD (sBest false (sVar 20)) (sC (.int 2)))) sNil))) (sC .none)) rNil))))) (sRet (sC (.bool false))) sSkip) t_law_16
def t_law_14 : SS := sSeq (sFor (iR1 (sUn lenD (sVar 7))) (gN 21) l_law_4) t_law_15
def t_law_13 : SS := sSeq (sFor (iR1 (sUn lenD (sVar 7))) (gN 21) l_law_3) t_law_14
def t_law_12 : SS := sSeq (sParX [19, 20] (xL (sItems sNil) (xV (sFr (sItems sNil)) xNil))) t_law_13
def t_law_11 : SS := sSeq (sIfS (sNot (sTru (sCall 2 m__law_same (rCons (sCall 5 m_best_period (rCons (sVar 2) (rCons (sVar 6) (rCons (sVar 12) (rCons (sVar 13) (rCons (sVar 14) rNil)))))) (rCons (sVar 15) rNil))))) (sRet (sC (.bool false))) sSkip) t_law_12
def t_law_10 : SS := sSeq (sFor (iR2 (sC (.int 1)) (sOp addD (sVar 14) (sC (.int 1)))) (gN 16) l_law_2) t_law_11
def t_law_9 : SS := sSeq (sAsgG (sTup (sCons (sNext 1 (sC (.int 5))) (sCons (sNext 1 (sC (.int 20))) (sCons (sOp addD (sC (.int 1)) (sNext 1 (sC (.int 8)))) (sCons (sC .none) sNil))))) (gT 4 (gCo (gN 12) (gCo (gN 13) (gCo (gN 14) (gCo (gN 15) gNo)))))) t_law_10
def t_law_8 : SS := sSeq (sIfS (sNot (sTru (sCall 2 m__law_same (rCons (sCall 2 m_delays (rCons (sVar 2) (rCons (sVar 7) rNil))) (rCons (sUn tupD (sBor 9)) rNil))))) (sRet (sC (.bool false))) sSkip) t_law_9
def t_law_7 : SS := sSeq (sFor (iVal (sVar 2)) (gN 10) l_law_1) t_law_8
def t_law_6 : SS := sSeq (sOwn 9 (sItems sNil)) t_law_7
def t_law_5 : SS := sSeq (sIfS (sNot (sTru (sCall 2 m__law_same (rCons (sCall 3 m_polls (rCons (sVar 4) (rCons (sVar 5) (rCons (sVar 6) rNil)))) (rCons (sVar 7) rNil))))) (sRet (sC (.bool false))) sSkip) t_law_6
def t_law_4 : SS := sSeq (sAsg 7 (sFr (sLc (iR2 (sVar 4) (sOp addD (sVar 6) (sC (.int 1)))) [8] (gN 8) (sTB (sOp eqD (sOp modD (sOp subD (sVar 8) (sVar 4)) (sVar 5)) (sC (.int 0)))) (sVar 8)))) t_law_5
def t_law_3 : SS := sSeq (sAsgG (sTup (sCons (sNext 1 (sC (.int 5))) (sCons (sOp addD (sC (.int 1)) (sNext 1 (sC (.int 6)))) (sCons (sOp addD (sC (.int 5)) (sNext 1 (sC (.int 28)))) sNil)))) (gT 3 (gCo (gN 4) (gCo (gN 5) (gCo (gN 6) gNo))))) t_law_4
def t_law_2 : SS := sSeq (sAsg 2 (sUn tupD (sFr (sSrtSet (sFr (sLc (iR1 (sNext 1 (sC (.int 7)))) [3] (gN 3) tYes' (sNext 1 (sC (.int 30))))))))) t_law_3
def b_law : SS := sSeq (sIfS (sNot (sTru (sCall 1 m__law_power (rDr 1 rNil)))) (sRet (sC (.bool false))) sSkip) t_law_2
theorem w_law (T : Bt ⟨K, P, w⟩ mg) (d__law_draw : Df P w K mg base "_law_draw" 1 ["script"] (spDraw K)) (d__law_power : Df P w K mg base "_law_power" 10 ["draw"] (spOf ⟨K, P, w⟩ m__law_power 1)) (d__law_next : Df P w K mg base "_law_next" 1 ["draw", "many"] spNext) (d__law_same : Df P w K mg base "_law_same" 9 ["actual", "due"] (spOf ⟨K, P, w⟩ m__law_same 2)) (d_polls : Df P w K mg base "polls" 2 ["first", "period", "end"] (spOf ⟨K, P, w⟩ m_polls 3)) (d_delays : Df P w K mg base "delays" 2 ["changes", "minutes"] (spOf ⟨K, P, w⟩ m_delays 2)) (d_cost_of : Df P w K mg base "cost_of" 3 ["changes", "period", "end", "price", "miss"] (spOf ⟨K, P, w⟩ m_cost_of 5)) (d_best_period : Df P w K mg base "best_period" 4 ["changes", "end", "price", "miss", "most"] (spOf ⟨K, P, w⟩ m_best_period 5)) (d_longest_idle : Df P w K mg base "longest_idle" 3 ["changes", "minutes"] (spOf ⟨K, P, w⟩ m_longest_idle 2)) (d_backing_off : Df P w K mg base "backing_off" 2 ["changes", "end", "most"] (spOf ⟨K, P, w⟩ m_backing_off 3)) {f : Addr} {fd : FuncData} (F : Fun K "law" "law" s_law f fd) (hm : b_law kL (env0 27 1)) : FnOk P w K mg base CX0 11 f fd ["script"] (spLaw K) :=
  law_ok2 (i := 1) (m := b_law) F sc_law (by decide) (fun cdv A outer s H E hr => by
    have hu := hu65 hr
    have hr1 := hr.mono (by decide : 1 ≤ 10)
    refine pss_and (pe_draw d__law_draw hr1 (pv 0)) (i := 1) sc_law.nd rfl (by first | exact .inl rfl | exact .inr rfl) (by rfl) (by first | exact .inl rfl | exact .inr rfl) ?_
    exact (mss_cons (ms_if (mt_not (mt_tru (me_callD d__law_power rfl (hr.mono (by decide)) rfl (mr_dr (pv 1) mr_nil)))) (mss_one (ms_ret me_bl)) mss_nil)
    (mss_cons (ms_set (i := 2) sc_law.nd rfl (by first | exact .inl rfl | exact .inr rfl) (me_tuple (by rfl) T.b_tuple (me_f (mf_srtSet rfl (by rfl) T.b_sorted (by rfl) T.b_set (me_f (mf_lc (own := [("k", 3)]) rfl sc_law.nd (mi_r1 (by rfl) T.b_range (me_nextD d__law_next hr1 (pv 1) me_int)) (blkOk_by (own := [("k", 3)]) (N := n_law) (sc := defScope s_law) (by decide +kernel)) (fun _ _ _ _ _ => (mg_name sc_law.nd rfl (by first | exact .inl rfl | exact .inr rfl) (by decide))) (fun _ _ _ _ _ => mts_nil) (fun _ _ _ _ _ => (me_nextD d__law_next hr1 (pv 1) me_int))))))))
    (mss_cons (ms_asg (ts := [4, 5, 6]) (me_tup (ma_cons (me_nextD d__law_next hr1 (pv 1) me_int) (ma_cons (me_add (b := true) me_int (me_nextD d__law_next hr1 (pv 1) me_int)) (ma_cons (me_add (b := true) me_int (me_nextD d__law_next hr1 (pv 1) me_int)) ma_nil)))) (mg_tup rfl (mgs_cons (mg_name sc_law.nd rfl (by first | exact .inl rfl | exact .inr rfl) (by decide)) (mgs_cons (mg_name sc_law.nd rfl (by first | exact .inl rfl | exact .inr rfl) (by decide)) (mgs_cons (mg_name sc_law.nd rfl (by first | exact .inl rfl | exact .inr rfl) (by decide)) mgs_nil)))))
    (mss_cons (ms_set (i := 7) sc_law.nd rfl (by first | exact .inl rfl | exact .inr rfl) (me_f (mf_lc (own := [("one", 8)]) rfl sc_law.nd (mi_r2 (by rfl) T.b_range (me_var (pv 4)) (me_add (b := true) (me_var (pv 6)) me_int)) (blkOk_by (own := [("one", 8)]) (N := n_law) (sc := defScope s_law) (by decide +kernel)) (fun _ _ _ _ _ => (mg_name sc_law.nd rfl (by first | exact .inl rfl | exact .inr rfl) (by decide))) (fun _ _ _ _ _ => (mts_one (mt_c (b := true) (c_eq hu) (me_mod (b := true) (me_sub (b := true) (me_var (pv 8)) (me_var (pv 4))) (me_var (pv 5))) me_int))) (fun _ _ _ _ _ => (me_var (pv 8))))))
    (mss_cons (ms_if (mt_not (mt_tru (me_callD d__law_same rfl (hr.mono (by decide)) rfl (mr_cons (me_callD d_polls rfl (hr.mono (by decide)) rfl (mr_cons (me_var (pv 4)) (mr_cons (me_var (pv 5)) (mr_cons (me_var (pv 6)) mr_nil)))) (mr_cons (me_var (pv 7)) mr_nil))))) (mss_one (ms_ret me_bl)) mss_nil)
    (mss_cons (ms_own sc_law.nd rfl (by first | exact .inl rfl | exact .inr rfl) (mf_lst ma_nil))
    (mss_cons (ms_for (ts := [10]) PassesOwn.never rfl (mi_val (me_var (pv 2))) (mg_name sc_law.nd rfl (by first | exact .inl rfl | exact .inr rfl) (by decide)) (mss_cons (ms_lcV (i := 11) (own := [("one", 8)]) rfl sc_law.nd rfl rfl (sw_true rfl rfl rfl (by decide +kernel)) (mi_val (me_var (pv 7))) (blkOk_by (own := [("one", 8)]) (N := n_law) (sc := defScope s_law) (by decide +kernel)) (fun _ _ _ _ _ => (mg_name sc_law.nd rfl (by first | exact .inl rfl | exact .inr rfl) (by decide))) (fun _ _ _ _ _ => (mts_one (mt_c (b := true) (c_ge hu) (me_var (pv 8)) (me_var (pv 10))))) (fun _ _ _ _ _ => (me_sub (b := true) (me_var (pv 8)) (me_var (pv 10)))))
    (mss_one (ms_app (pv 9) (me_if (mt_tru (me_var (pv 11))) (me_ix (me_var (pv 11)) me_int) me_non)))))
    (mss_cons (ms_if (mt_not (mt_tru (me_callD d__law_same rfl (hr.mono (by decide)) rfl (mr_cons (me_callD d_delays rfl (hr.mono (by decide)) rfl (mr_cons (me_var (pv 2)) (mr_cons (me_var (pv 7)) mr_nil))) (mr_cons (me_tuple (by rfl) T.b_tuple (me_bor (pv 9))) mr_nil))))) (mss_one (ms_ret me_bl)) mss_nil)
    (mss_cons (ms_asg (ts := [12, 13, 14, 15]) (me_tup (ma_cons (me_nextD d__law_next hr1 (pv 1) me_int) (ma_cons (me_nextD d__law_next hr1 (pv 1) me_int) (ma_cons (me_add (b := true) me_int (me_nextD d__law_next hr1 (pv 1) me_int)) (ma_cons me_non ma_nil))))) (mg_tup rfl (mgs_cons (mg_name sc_law.nd rfl (by first | exact .inl rfl | exact .inr rfl) (by decide)) (mgs_cons (mg_name sc_law.nd rfl (by first | exact .inl rfl | exact .inr rfl) (by decide)) (mgs_cons (mg_name sc_law.nd rfl (by first | exact .inl rfl | exact .inr rfl) (by decide)) (mgs_cons (mg_name sc_law.nd rfl (by first | exact .inl rfl | exact .inr rfl) (by decide)) mgs_nil))))))
    (mss_cons (ms_for (ts := [16]) PassesOwn.never rfl (mi_r2 (by rfl) T.b_range me_int (me_add (b := true) (me_var (pv 14)) me_int)) (mg_name sc_law.nd rfl (by first | exact .inl rfl | exact .inr rfl) (by decide)) (mss_cons (ms_set (i := 17) sc_law.nd rfl (by first | exact .inl rfl | exact .inr rfl) (me_f (mf_lR3 rfl (by rfl) T.b_list (by rfl) T.b_range me_int (me_add (b := true) (me_var (pv 6)) me_int) (me_var (pv 16)))))
    (mss_cons (ms_set (i := 18) sc_law.nd rfl (by first | exact .inl rfl | exact .inr rfl) (me_add (b := true) (me_mul (b := true) (me_var (pv 12)) (me_len (by rfl) T.b_len (me_var (pv 17)))) (me_sum rfl (by rfl) T.b_sum (me_f (mf_lc (own := [("change", 10)]) rfl sc_law.nd (mi_val (me_var (pv 2))) (blkOk_by (own := [("change", 10)]) (N := n_law) (sc := defScope s_law) (by decide +kernel)) (fun _ _ _ _ _ => (mg_name sc_law.nd rfl (by first | exact .inl rfl | exact .inr rfl) (by decide))) (fun _ _ _ _ _ => mts_nil) (fun _ _ _ _ _ => (me_if (mt_c (b := true) (c_le hu) (me_var (pv 10)) (me_ix (me_var (pv 17)) (me_neg (b := true) me_int))) (me_sub (b := true) (me_min rfl (by rfl) T.b_min (me_f (mf_lc (own := [("one", 8)]) rfl sc_law.nd (mi_val (me_var (pv 17))) (blkOk_by (own := [("one", 8)]) (by rfl)) (fun _ _ _ _ _ => (mg_name sc_law.nd rfl (by first | exact .inl rfl | exact .inr rfl) (by decide))) (fun _ _ _ _ _ => (mts_one (mt_c (b := true) (c_ge hu) (me_var (pv 8)) (me_var (pv 10))))) (fun _ _ _ _ _ => (me_var (pv 8)))))) (me_var (pv 10))) (me_var (pv 13)))))))))
    (mss_cons (ms_if (mt_w (mw_and (mt_c (b := true) (c_eq hu) (me_var (pv 16)) (me_var (pv 14))) (mw_and1 (mt_not (mt_tru (me_callD d__law_same rfl (hr.mono (by decide)) rfl (mr_cons (me_callD d_cost_of rfl (hr.mono (by decide)) rfl (mr_cons (me_var (pv 2)) (mr_cons (me_var (pv 16)) (mr_cons (me_var (pv 6)) (mr_cons (me_var (pv 12)) (mr_cons (me_var (pv 13)) mr_nil)))))) (mr_cons (me_var (pv 18)) mr_nil)))))))) (mss_one (ms_ret me_bl)) mss_nil)
    (mss_one (ms_set (i := 15) sc_law.nd rfl (by first | exact .inl rfl | exact .inr rfl) (me_if (mt_w (mw_or (mt_c (b := true) c_is (me_var (pv 15)) me_non) (mw_or1 (mt_c (b := true) (c_le hu) (me_var (pv 18)) (me_ix (me_var (pv 15)) me_int))))) (me_tup (ma_cons (me_var (pv 18)) (ma_cons (me_var (pv 16)) ma_nil))) (me_var (pv 15)))))))))
    (mss_cons (ms_if (mt_not (mt_tru (me_callD d__law_same rfl (hr.mono (by decide)) rfl (mr_cons (me_callD d_best_period rfl (hr.mono (by decide)) rfl (mr_cons (me_var (pv 2)) (mr_cons (me_var (pv 6)) (mr_cons (me_var (pv 12)) (mr_cons (me_var (pv 13)) (mr_cons (me_var (pv 14)) mr_nil)))))) (mr_cons (me_var (pv 15)) mr_nil))))) (mss_one (ms_ret me_bl)) mss_nil)
    (mss_cons (ms_tupX (is := [19, 20]) rfl sc_law.nd (.cons rfl (by first | exact .inl rfl | exact .inr rfl) (by first | exact .inl rfl | exact .inr rfl) (by rfl) (.cons rfl (by first | exact .inl rfl | exact .inr rfl) (by first | exact .inl rfl | exact .inr rfl) (by rfl) .nil)) (mx_l (mf_lst ma_nil) (mx_v (me_f (mf_lst ma_nil)) mx_nil)))
    (mss_cons (ms_for (ts := [21]) PassesOwn.never rfl (mi_r1 (by rfl) T.b_range (me_len (by rfl) T.b_len (me_var (pv 7)))) (mg_name sc_law.nd rfl (by first | exact .inl rfl | exact .inr rfl) (by decide)) (mss_cons (ms_set (i := 22) sc_law.nd rfl (by first | exact .inl rfl | exact .inr rfl) (me_if (mt_c (b := true) (c_gt hu) (me_var (pv 21)) me_int) (me_ix (me_var (pv 7)) (me_sub (b := true) (me_var (pv 21)) me_int)) (me_neg (b := true) me_int)))
    (mss_one (ms_app (pv 19) (me_not (me_any rfl (by rfl) T.b_any (me_f (mf_lc (own := [("change", 10)]) rfl sc_law.nd (mi_val (me_var (pv 2))) (blkOk_by (own := [("change", 10)]) (N := n_law) (sc := defScope s_law) (by decide +kernel)) (fun _ _ _ _ _ => (mg_name sc_law.nd rfl (by first | exact .inl rfl | exact .inr rfl) (by decide))) (fun _ _ _ _ _ => mts_nil) (fun _ _ _ _ _ => (me_ch (b := true) (c_lt hu) (c_le hu) (me_var (pv 22)) (me_var (pv 10)) (me_ix (me_var (pv 7)) (me_var (pv 21)))))))))))))
    (mss_cons (ms_for (ts := [21]) PassesOwn.never rfl (mi_r1 (by rfl) T.b_range (me_len (by rfl) T.b_len (me_var (pv 7)))) (mg_name sc_law.nd rfl (by first | exact .inl rfl | exact .inr rfl) (by decide)) (mss_one (ms_set (i := 20) sc_law.nd rfl (by first | exact .inl rfl | exact .inr rfl) (me_add (b := true) (me_var (pv 20)) (me_f (mf_lc (own := [("k", 3)]) rfl sc_law.nd (mi_r2 (by rfl) T.b_range (me_var (pv 21)) (me_len (by rfl) T.b_len (me_var (pv 7)))) (blkOk_by (own := [("k", 3)]) (N := n_law) (sc := defScope s_law) (by decide +kernel)) (fun _ _ _ _ _ => (mg_name sc_law.nd rfl (by first | exact .inl rfl | exact .inr rfl) (by decide))) (fun _ _ _ _ _ => (mts_one (mt_tru (me_all rfl (by rfl) T.b_all (me_sl (me_bor (pv 19)) (mo_some (me_var (pv 21))) (mo_some (me_add (b := true) (me_var (pv 3)) me_int))))))) (fun _ _ _ _ _ => (me_tup (ma_cons (me_sub (b := true) (me_var (pv 21)) (me_var (pv 3))) (ma_cons (me_var (pv 21)) (ma_cons (me_var (pv 3)) ma_nil)))))))))))
    (mss_cons (ms_if (mt_not (mt_tru (me_callD d__law_same rfl (hr.mono (by decide)) rfl (mr_cons (me_callD d_longest_idle rfl (hr.mono (by decide)) rfl (mr_cons (me_var (pv 2)) (mr_cons (me_var (pv 7)) mr_nil))) (mr_cons (me_if (mt_tru (me_var (pv 20))) (me_tup (ma_cons (me_ix (me_var (pv 7)) (me_ix (me_minB rfl hu (by rfl) T.b_min (me_var (pv 20))) me_int)) (ma_cons (me_ix (me_var (pv 7)) (me_ix (me_minB rfl hu (by rfl) T.b_min (me_var (pv 20))) me_int)) ma_nil))) me_non) mr_nil))))) (mss_one (ms_ret me_bl)) mss_nil)
    (mss_cons (ms_tupX (is := [23, 24, 25, 26]) rfl sc_law.nd (.cons rfl (by first | exact .inl rfl | exact .inr rfl) (by first | exact .inl rfl | exact .inr rfl) (by rfl) (.cons rfl (by first | exact .inl rfl | exact .inr rfl) (by first | exact .inl rfl | exact .inr rfl) (by rfl) (.cons rfl (by first | exact .inl rfl | exact .inr rfl) (by first | exact .inl rfl | exact .inr rfl) (by rfl) (.cons rfl (by first | exact .inl rfl | exact .inr rfl) (by first | exact .inl rfl | exact .inr rfl) (by rfl) .nil)))) (mx_l (mf_lst ma_nil) (mx_v me_int (mx_v me_int (mx_v (me_neg (b := true) me_int) mx_nil)))))
    (mss_cons (ms_while PassesOwn.never (mt_c (b := true) (c_le hu) (me_var (pv 24)) (me_var (pv 6))) (mss_cons (ms_app (pv 23) (me_var (pv 24)))
    (mss_cons (ms_set (i := 25) sc_law.nd rfl (by first | exact .inl rfl | exact .inr rfl) (me_if (mt_tru (me_f (mf_lc (own := [("change", 10)]) rfl sc_law.nd (mi_val (me_var (pv 2))) (blkOk_by (own := [("change", 10)]) (N := n_law) (sc := defScope s_law) (by decide +kernel)) (fun _ _ _ _ _ => (mg_name sc_law.nd rfl (by first | exact .inl rfl | exact .inr rfl) (by decide))) (fun _ _ _ _ _ => (mts_one (mt_ch (b := true) (c_lt hu) (c_le hu) (me_var (pv 26)) (me_var (pv 10)) (me_var (pv 24))))) (fun _ _ _ _ _ => (me_var (pv 10)))))) me_int (me_min2 rfl (by rfl) T.b_min (me_var (pv 14)) (me_add (b := true) (me_var (pv 25)) (me_var (pv 25))))))
    (mss_one (ms_asg (ts := [26, 24]) (me_tup (ma_cons (me_var (pv 24)) (ma_cons (me_add (b := true) (me_var (pv 24)) (me_var (pv 25))) ma_nil))) (mg_tup rfl (mgs_cons (mg_name sc_law.nd rfl (by first | exact .inl rfl | exact .inr rfl) (by decide)) (mgs_cons (mg_name sc_law.nd rfl (by first | exact .inl rfl | exact .inr rfl) (by decide)) mgs_nil))))))))
    (mss_one (ms_fz 23 (ms_ret (me_callD d__law_same rfl (hr.mono (by decide)) rfl (mr_cons (me_callD d_backing_off rfl (hr.mono (by decide)) rfl (mr_cons (me_var (pv 2)) (mr_cons (me_var (pv 6)) (mr_cons (me_var (pv 14)) mr_nil)))) (mr_cons (me_var (pv 23)) mr_nil)))))))))))))))))))))))) hm
end
end Mi

namespace Mi
open PySem PySem.Spec L2
/-! ### k31: pauses with the power off: which plans are the least -/
theorem enumI_snd' {α : Type} : ∀ (k : Int) (L : List α), (enumI k L).map (·.2) = L
  | _, [] => rfl
  | k, a :: L => by simp [enumI, enumI_snd' (k + 1) L]
theorem enumI_fst' {α : Type} : ∀ (k : Int) (L : List α), (enumI k L).map (·.1) = rng k (k + (L.length : Int))
  | k, [] => by simp [enumI, rng]
  | k, a :: L => by
    have h := enumI_fst' (k + 1) L
    have e : rng k (k + ((a :: L).length : Int)) = k :: rng (k + 1) (k + 1 + (L.length : Int)) := by
      unfold rng
      rw [show (k + ((a :: L).length : Int) - k).toNat = L.length + 1 by simp; omega, show (k + 1 + (L.length : Int) - (k + 1)).toNat = L.length by omega, List.range_succ_eq_map, List.map_cons, List.map_map]
      congr 1
      · simp
      · exact List.map_congr_left fun i _ => by simp; omega
    rw [e, ← h]
    rfl
section
variable {wake : Int} {rs : List Int} {m : Nat}
abbrev EN (rs : List Int) : List (Int × Int) := enumI 0 rs
/-- what the pauses cost, those of q off -/
def cE (wake : Int) (rs : List Int) (q : Int → Bool) : Int := ((EN rs).map fun x => if q x.1 = true then wake else x.2).sum
def plQ (rs : List Int) (q : Int → Bool) : List Bool := (EN rs).map fun x => q x.1
def offN (rs : List Int) (q : Int → Bool) : Nat := ((EN rs).filter fun x => q x.1).length
def cS (wake : Int) (p : List Bool) (rs : List Int) : Int := ((p.zip rs).map fun x => if x.1 = true then wake else x.2).sum
theorem zip_maps {α β γ : Type} (f : α → β) (g : α → γ) : ∀ E : List α, (E.map f).zip (E.map g) = E.map fun x => (f x, g x)
  | [] => rfl
  | a :: E => by rw [List.map_cons, List.map_cons, List.zip_cons_cons, zip_maps f g E]; rfl
theorem cS_q (q : Int → Bool) : cS wake (plQ rs q) rs = cE wake rs q := by
  unfold cS plQ cE
  conv => lhs; rw [← enumI_snd' 0 rs]
  rw [enumI_snd' 0 rs]
  have : rs = (EN rs).map (·.2) := (enumI_snd' 0 rs).symm
  conv => lhs; arg 1; arg 2; arg 2; rw [this]
  rw [zip_maps, List.map_map]
  rfl
def qOf (p : List Bool) : Int → Bool := fun i => p.getD i.toNat false
theorem plQ_of {p : List Bool} (h : p.length = rs.length) : plQ rs (qOf p) = p := by
  have e : plQ rs (qOf p) = ((EN rs).map (·.1)).map (qOf p) := by unfold plQ; rw [List.map_map]; rfl
  rw [e, enumI_fst']
  unfold rng
  rw [show ((0 : Int) + (rs.length : Int) - 0).toNat = rs.length by omega, List.map_map]
  refine List.ext_getElem (by simp [h]) fun i h1 h2 => ?_
  rw [List.getElem_map, List.getElem_range]
  show qOf p (0 + (i : Int)) = _
  unfold qOf
  rw [Int.zero_add, Int.toNat_natCast, List.getD_eq_getElem?_getD, List.getElem?_eq_getElem h2]
  rfl
theorem cE_off (q : Int → Bool) : cE wake rs q = rs.sum + (((EN rs).filter fun x => q x.1).map fun x => wake - x.2).sum := by
  have key : ∀ E : List (Int × Int), (E.map fun x => if q x.1 = true then wake else x.2).sum = (E.map (·.2)).sum + ((E.filter fun x => q x.1).map fun x => wake - x.2).sum := by
    intro E
    induction E with
    | nil => rfl
    | cons a E ih =>
      cases c : q a.1
      · rw [List.filter_cons_of_neg (by rw [c]; simp)]
        simp only [List.map_cons, List.sum_cons, c, Bool.false_eq_true, if_false]
        omega
      · have e : (a :: E).filter (fun x => q x.1) = a :: E.filter fun x => q x.1 := List.filter_cons_of_pos (p := fun x : Int × Int => q x.1) c
        rw [e]
        simp only [List.map_cons, List.sum_cons, c, if_true]
        omega
  unfold cE
  rw [key, enumI_snd']
/-! the greatest pauses -/
def savL (wake : Int) (rs : List Int) : List (Int × Int) := ((EN rs).filter fun x => decide (wake < x.2)).map fun x => (wake - x.2, x.1)
abbrev lt2 : Int × Int → Int × Int → Bool := ltP ltI ltI
def savS (wake : Int) (rs : List Int) : List (Int × Int) := srtL lt2 (savL wake rs)
def offL (wake : Int) (rs : List Int) (m : Nat) : List Int := ((savS wake rs).take m).map (·.2)
def qL (wake : Int) (rs : List Int) (m : Nat) : Int → Bool := fun i => decide (i ∈ offL wake rs m)
theorem lo2 : Lo (fun p : Int × Int => PyData.tuple [.int p.1, .int p.2]) lt2 := lo_pair lo_int lo_int
theorem EN_nd (rs : List Int) : ((EN rs).map (·.1)).Nodup := by
  rw [enumI_fst']
  unfold rng
  have := List.nodup_range (n := ((0 : Int) + (rs.length : Int) - 0).toNat)
  exact List.pairwise_map.mpr (this.imp fun {a b} h e => h (by omega))
theorem EN_inj {x z : Int × Int} (hx : x ∈ EN rs) (hz : z ∈ EN rs) (h : x.1 = z.1) : x = z := by
  have : ∀ E : List (Int × Int), (E.map (·.1)).Nodup → x ∈ E → z ∈ E → x = z := by
    intro E
    induction E with
    | nil => intro _ h; cases h
    | cons a E ih =>
      intro nd h1 h2
      rw [List.map_cons, List.nodup_cons] at nd
      rcases List.mem_cons.mp h1 with e1 | h1 <;> rcases List.mem_cons.mp h2 with e2 | h2
      · rw [e1, e2]
      · exact absurd (List.mem_map.mpr ⟨z, h2, by rw [← h, e1]⟩) nd.1
      · exact absurd (List.mem_map.mpr ⟨x, h1, by rw [h, e2]⟩) nd.1
      · exact ih nd.2 h1 h2
  exact this _ (EN_nd rs) hx hz
theorem savS_mem {v i : Int} : (v, i) ∈ savS wake rs ↔ ∃ r, (i, r) ∈ EN rs ∧ wake < r ∧ v = wake - r := by
  unfold savS
  rw [(srtL_perm _).mem_iff]
  unfold savL
  rw [List.mem_map]
  constructor
  · rintro ⟨⟨j, r⟩, h, e⟩
    obtain ⟨h1, h2⟩ := List.mem_filter.mp h
    cases e
    exact ⟨r, h1, of_decide_eq_true h2, rfl⟩
  · rintro ⟨r, h1, h2, rfl⟩
    exact ⟨(i, r), List.mem_filter.mpr ⟨h1, decide_eq_true h2⟩, rfl⟩
theorem savS_nd : ((savS wake rs).map (·.2)).Nodup := by
  unfold savS
  refine ((srtL_perm _).map _).nodup_iff.mpr ?_
  unfold savL
  rw [List.map_map]
  have : (List.map ((fun x => x.2) ∘ fun x : Int × Int => (wake - x.2, x.1)) ((EN rs).filter fun x => decide (wake < x.2))) = ((EN rs).filter fun x => decide (wake < x.2)).map (·.1) := rfl
  rw [this]
  exact (EN_nd rs).sublist (List.Sublist.map _ List.filter_sublist)
theorem take_filter : ∀ (S : List (Int × Int)) (m : Nat), (S.map (·.2)).Nodup → (S.filter fun x => decide (x.2 ∈ (S.take m).map (·.2))) = S.take m
  | [], m, _ => by simp
  | a :: S, 0, _ => by simp
  | a :: S, m + 1, nd => by
    rw [List.map_cons, List.nodup_cons] at nd
    rw [List.take_succ_cons, List.filter_cons_of_pos (by simp)]
    congr 1
    rw [← take_filter S m nd.2]
    refine List.filter_congr fun x hx => ?_
    have hne : x.2 ≠ a.2 := fun e => nd.1 (List.mem_map.mpr ⟨x, hx, e⟩)
    rw [take_filter S m nd.2]
    simp [hne]
theorem sum_take : ∀ (S U : List Int) (m : Nat), S.Pairwise (· ≤ ·) → (∀ v ∈ S, v ≤ 0) → U.Sublist S → U.length ≤ m → (S.take m).sum ≤ U.sum
  | [], U, m, _, _, hu, _ => by
    rw [List.sublist_nil.mp hu]
    simp
  | a :: S, U, m, so, ng, hu, hl => by
    obtain ⟨s1, s2⟩ := List.pairwise_cons.mp so
    cases hu with
    | @cons _ _ _ hu =>
      have ih := sum_take S U m s2 (fun v hv => ng v (List.mem_cons_of_mem _ hv)) hu hl
      cases m with
      | zero => simpa using ih
      | succ k =>
        rw [List.take_succ_cons, List.sum_cons]
        have : a + (S.take k).sum ≤ (S.take (k + 1)).sum := by
          rw [List.take_succ, List.sum_append]
          cases e : S[k]? with
          | none => have := ng a (by simp); simp; omega
          | some v =>
            have := s1 v (List.mem_of_getElem? e)
            simp
            omega
        omega
    | @cons_cons U' _ _ hu =>
      cases m with
      | zero => simp at hl
      | succ k =>
        have ih := sum_take S U' k s2 (fun v hv => ng v (List.mem_cons_of_mem _ hv)) hu (by simpa using hl)
        rw [List.take_succ_cons, List.sum_cons, List.sum_cons]
        omega
end
section
variable {wake : Int} {rs : List Int} {m : Nat}
theorem sum_perm' {xs ys : List Int} (h : xs.Perm ys) : xs.sum = ys.sum := by
  induction h with
  | nil => rfl
  | cons x _ ih => simp [ih]
  | swap x y l => simp; omega
  | trans _ _ h1 h2 => exact h1.trans h2
theorem savS_so : ((savS wake rs).map (·.1)).Pairwise (· ≤ ·) := by
  have := lo2.so (savL wake rs)
  refine List.pairwise_map.mpr (this.imp fun {a b} h => ?_)
  unfold lt2 ltP at h
  by_cases c : b.1 = a.1
  · omega
  · rw [if_neg c] at h
    unfold ltI at h
    simp at h
    exact h
theorem savS_neg : ∀ v ∈ (savS wake rs).map (·.1), v ≤ 0 := fun v hv => by
  obtain ⟨⟨v', i⟩, h, rfl⟩ := List.mem_map.mp hv
  obtain ⟨r, _, h2, h3⟩ := savS_mem.mp h
  show v' ≤ 0
  omega
/-- the savings of q: at least those of its off pauses that save -/
theorem off_ge (q : Int → Bool) : (((savS wake rs).filter fun x => q x.2).map (·.1)).sum ≤ (((EN rs).filter fun x => q x.1).map fun x => wake - x.2).sum := by
  have key : ∀ E : List (Int × Int), ((((E.filter fun x => decide (wake < x.2)).map fun x => (wake - x.2, x.1)).filter fun x : Int × Int => q x.2).map (·.1)).sum ≤ ((E.filter fun x => q x.1).map fun x => wake - x.2).sum := by
    intro E
    induction E with
    | nil => exact Int.le_refl _
    | cons a E ih =>
      by_cases c1 : wake < a.2
      · have e1 : (a :: E).filter (fun x => decide (wake < x.2)) = a :: E.filter fun x => decide (wake < x.2) := List.filter_cons_of_pos (p := fun x : Int × Int => decide (wake < x.2)) (decide_eq_true c1)
        rw [e1, List.map_cons]
        cases c : q a.1
        · have e2 : (a :: E).filter (fun x => q x.1) = E.filter fun x => q x.1 := List.filter_cons_of_neg (p := fun x : Int × Int => q x.1) (by rw [c]; simp)
          rw [e2, List.filter_cons_of_neg (by show ¬ q a.1 = true; rw [c]; simp)]
          exact ih
        · have e2 : (a :: E).filter (fun x => q x.1) = a :: E.filter fun x => q x.1 := List.filter_cons_of_pos (p := fun x : Int × Int => q x.1) c
          rw [e2, List.filter_cons_of_pos (by exact c)]
          simp only [List.map_cons, List.sum_cons]
          omega
      · have e1 : (a :: E).filter (fun x => decide (wake < x.2)) = E.filter fun x => decide (wake < x.2) := List.filter_cons_of_neg (p := fun x : Int × Int => decide (wake < x.2)) (by simpa using c1)
        rw [e1]
        cases c : q a.1
        · have e2 : (a :: E).filter (fun x => q x.1) = E.filter fun x => q x.1 := List.filter_cons_of_neg (p := fun x : Int × Int => q x.1) (by rw [c]; simp)
          rw [e2]
          exact ih
        · have e2 : (a :: E).filter (fun x => q x.1) = a :: E.filter fun x => q x.1 := List.filter_cons_of_pos (p := fun x : Int × Int => q x.1) c
          rw [e2]
          simp only [List.map_cons, List.sum_cons]
          omega
  have := key (EN rs)
  have hp : ((savS wake rs).filter fun x => q x.2).Perm ((savL wake rs).filter fun x => q x.2) := (srtL_perm _).filter _
  rw [sum_perm' (hp.map _)]
  exact this
theorem filt_len (q : Int → Bool) : ((savS wake rs).filter fun x => q x.2).length ≤ offN rs q := by
  have hp : ((savS wake rs).filter fun x => q x.2).Perm ((savL wake rs).filter fun x => q x.2) := (srtL_perm _).filter _
  rw [hp.length_eq]
  unfold savL offN
  rw [List.filter_map, List.length_map, List.filter_filter]
  have : ∀ E : List (Int × Int), (E.filter fun x => q x.1 && decide (wake < x.2)).length ≤ (E.filter fun x => q x.1).length := fun E => by
    have : (E.filter fun x => q x.1 && decide (wake < x.2)) = (E.filter fun x => q x.1).filter fun x => decide (wake < x.2) := by rw [List.filter_filter]; exact List.filter_congr fun x _ => Bool.and_comm _ _
    rw [this]
    exact List.length_filter_le _ _
  exact this (EN rs)
theorem qL_off {i r : Int} (h : (i, r) ∈ EN rs) (hq : qL wake rs m i = true) : wake < r := by
  have hq := of_decide_eq_true hq
  obtain ⟨⟨v, i'⟩, h1, e⟩ := List.mem_map.mp hq
  have e : i' = i := e
  subst e
  obtain ⟨r', g1, g2, _⟩ := savS_mem.mp (List.mem_of_mem_take h1)
  have := EN_inj h g1 rfl
  cases this
  exact g2
theorem off_eq : (((EN rs).filter fun x => qL wake rs m x.1).map fun x => wake - x.2).sum = (((savS wake rs).take m).map (·.1)).sum ∧ offN rs (qL wake rs m) = ((savS wake rs).take m).length := by
  have hp : ((savS wake rs).filter fun x => qL wake rs m x.2).Perm ((savL wake rs).filter fun x => qL wake rs m x.2) := (srtL_perm _).filter _
  have e1 : ((savS wake rs).filter fun x => qL wake rs m x.2) = (savS wake rs).take m := take_filter _ m savS_nd
  rw [e1] at hp
  have e2 : (savL wake rs).filter (fun x => qL wake rs m x.2) = ((EN rs).filter fun x => qL wake rs m x.1).map fun x => (wake - x.2, x.1) := by
    unfold savL
    rw [List.filter_map, List.filter_filter]
    congr 1
    refine List.filter_congr fun x hx => ?_
    show (qL wake rs m x.1 && decide (wake < x.2)) = qL wake rs m x.1
    cases c : qL wake rs m x.1
    · rfl
    · rw [decide_eq_true (qL_off hx c)]; rfl
  rw [e2] at hp
  constructor
  · rw [sum_perm' (hp.map _), List.map_map]; rfl
  · unfold offN
    rw [hp.length_eq, List.length_map]
theorem lim_least (q : Int → Bool) (h : offN rs q ≤ m) : cE wake rs (qL wake rs m) ≤ cE wake rs q := by
  rw [cE_off, cE_off, (off_eq (wake := wake) (rs := rs) (m := m)).1]
  have h1 := off_ge (wake := wake) (rs := rs) q
  have h2 := sum_take ((savS wake rs).map (·.1)) (((savS wake rs).filter fun x => q x.2).map (·.1)) m savS_so savS_neg (List.Sublist.map _ List.filter_sublist) (by rw [List.length_map]; exact Nat.le_trans (filt_len q) h)
  rw [← List.map_take] at h2
  omega
theorem lim_few : offN rs (qL wake rs m) ≤ m := by
  rw [(off_eq (wake := wake) (rs := rs) (m := m)).2, List.length_take]
  exact Nat.min_le_left _ _
theorem take_low : ∀ (S : List (Int × Int)) (m : Nat), S.Pairwise (fun a b => lt2 b a = false) → ∀ x ∈ S.take m, ∀ y ∈ S, lt2 y x = true → y ∈ S.take m
  | [], m, _, x, hx, y, hy, _ => by cases hy
  | a :: S, 0, _, x, hx, _, _, _ => by cases hx
  | a :: S, m + 1, so, x, hx, y, hy, hl => by
    obtain ⟨s1, s2⟩ := List.pairwise_cons.mp so
    rw [List.take_succ_cons] at hx ⊢
    rcases List.mem_cons.mp hy with e | hy
    · rw [e]; simp
    · rcases List.mem_cons.mp hx with e | hx
      · rw [e] at hl
        rw [s1 y hy] at hl
        cases hl
      · exact List.mem_cons_of_mem _ (take_low S m s2 x hx y hy hl)
theorem lim_order {i j r t : Int} (hi : (i, r) ∈ EN rs) (hj : (j, t) ∈ EN rs) (h1 : qL wake rs m i = true) (h2 : qL wake rs m j = false) : ¬ (r < t ∨ (t = r ∧ j < i)) := by
  intro h
  have hr := qL_off hi h1
  have h1' := of_decide_eq_true h1
  obtain ⟨⟨v, i'⟩, g1, e⟩ := List.mem_map.mp h1'
  have e : i' = i := e
  subst e
  obtain ⟨r', g2, g3, g4⟩ := savS_mem.mp (List.mem_of_mem_take g1)
  have := EN_inj hi g2 rfl
  cases this
  have hy : (wake - t, j) ∈ savS wake rs := savS_mem.mpr ⟨t, hj, by omega, rfl⟩
  have hl : lt2 (wake - t, j) (v, i') = true := by
    unfold lt2 ltP
    by_cases c : wake - t = v
    · rw [if_pos c]; unfold ltI; simp; omega
    · rw [if_neg c]; unfold ltI; simp; omega
  have := take_low (savS wake rs) m (lo2.so _) _ g1 _ hy hl
  have h3 : j ∈ offL wake rs m := List.mem_map.mpr ⟨_, this, rfl⟩
  unfold qL at h2
  rw [decide_eq_true h3] at h2
  cases h2
/-! the best plan of all -/
def bestP (wake : Int) (rs : List Int) : List Bool := rs.map fun r => decide (wake ≤ r)
theorem best_least : ∀ (rs : List Int) (p : List Bool), p.length = rs.length → (rs.map fun r => min r wake).sum ≤ cS wake p rs
  | [], p, _ => by unfold cS; simp
  | r :: rs, [], h => by cases h
  | r :: rs, b :: p, h => by
    have ih := best_least rs p (by simpa using h)
    unfold cS at *
    rw [List.zip_cons_cons]
    simp only [List.map_cons, List.sum_cons]
    cases b <;> simp <;> omega
theorem best_cost (rs : List Int) : cS wake (bestP wake rs) rs = (rs.map fun r => min r wake).sum := by
  induction rs with
  | nil => rfl
  | cons r rs ih =>
    unfold cS bestP at *
    rw [List.map_cons, List.zip_cons_cons]
    simp only [List.map_cons, List.sum_cons]
    rw [ih]
    by_cases c : wake ≤ r
    · rw [decide_eq_true c]; simp; omega
    · rw [decide_eq_false c]; simp; omega
def thS (wake : Int) (rs : List Int) : Int := (rs.map fun r => if r ≤ wake then r else wake + wake).sum
theorem th_two (h0 : 0 ≤ wake) : ∀ rs : List Int, (∀ r ∈ rs, 0 ≤ r) → thS wake rs ≤ 2 * (rs.map fun r => min r wake).sum
  | [], _ => by unfold thS; simp
  | r :: rs, h => by
    have ih := th_two h0 rs fun x hx => h x (List.mem_cons_of_mem _ hx)
    have := h r (by simp)
    unfold thS at *
    simp only [List.map_cons, List.sum_cons]
    split <;> omega
end

end Mi

namespace Mi
open PySem PySem.Spec L2
/-! ### k31: the power of a host -/
def dW (p : Int × Int) : D := .tuple [.int p.1, .int p.2]
theorem dI_map {α : Type} (g : α → Int) (xs : List α) : (xs.map fun a => PyData.int (g a)) = dInts (xs.map g) := by unfold dInts; rw [List.map_map]; rfl
def rsL (ws : List (Int × Int)) : List Int := (pairs ws).map fun p => p.2.1 - p.1.2
def ownI (ws : List (Int × Int)) : Int := (ws.map fun w => w.2 - w.1).sum
def wd (b : Bool) : Str := if b = true then "off" else "on"
def plD (p : List Bool) : D := .tuple (dStrs (p.map wd))
section
variable {Q : D → Prop} {ws : List (Int × Int)} {wake limit : Int}
theorem pauses_ok (q : Q (.list (dInts (rsL ws)))) : m_pauses [.v (.tuple (ws.map dW))] Q := by
  unfold m_pauses semD b_pauses
  simp -implicitDefEqProofs
  rw [zipL_pairs]
  refine lc_all (enc := fun p : (Int × Int) × (Int × Int) => .tuple [dW p.1, dW p.2]) (f := fun p => .int (p.2.1 - p.1.2)) (pairs ws) _ (fun p hp R hR => ?_) ?_
  · have b0 : atI [PyData.int p.2.1, PyData.int p.2.2] 0 = some (.int p.2.1) := at_some (j := 0) rfl rfl
    have b1 : atI [PyData.int p.1.1, PyData.int p.1.2] 1 = some (.int p.1.2) := at_some (j := 1) rfl rfl
    simp -implicitDefEqProofs [dW, b0, b1]
    exact hR
  · rw [dI_map]
    exact q
theorem own_ok (q : Q (.int (ownI ws))) : m_own_minutes [.v (.tuple (ws.map dW))] Q := by
  unfold m_own_minutes semD b_own_minutes
  simp -implicitDefEqProofs
  refine lc_all (enc := dW) (f := fun p => .int (p.2 - p.1)) ws _ (fun p hp R hR => by simp -implicitDefEqProofs [dW]; exact hR) ?_
  rw [dI_map, sum_dI]
  exact q
def bsI (ws : List (Int × Int)) (wake : Int) : Int := ownI ws + if ws = [] then 0 else wake
theorem min_two {a c : Int} : min2D (.int a) (.int c) = some (.int (min a c)) := by simp
theorem rsL_nil : rsL [] = [] := rfl
theorem least_cost_ok (q : Q (.tuple [.int (bsI ws wake + ((rsL ws).map fun r => min r wake).sum), plD (bestP wake (rsL ws))])) : m_least_cost [.v (.tuple (ws.map dW)), .v (.int wake)] Q := by
  unfold m_least_cost semD b_least_cost
  cases ws with
  | nil =>
    simp -implicitDefEqProofs
    have e : bsI [] wake + ((rsL []).map fun r => min r wake).sum = 0 := by simp [bsI, ownI, rsL_nil]
    rw [e] at q
    exact q
  | cons w ws =>
    have hp := fun Q q => pauses_ok (Q := Q) (ws := w :: ws) q
    have ho := own_ok (Q := fun d => d = .int (ownI (w :: ws))) (ws := w :: ws) rfl
    have hb : bsI (w :: ws) wake = ownI (w :: ws) + wake := by unfold bsI; rw [if_neg (by simp)]
    rw [hb] at q
    simp -implicitDefEqProofs
    unfold t_least_cost_2
    simp -implicitDefEqProofs
    refine up_of (hp _ rfl) ?_
    simp -implicitDefEqProofs
    refine lc_all (enc := PyData.int) (f := fun r => .str (wd (decide (wake ≤ r)))) (rsL (w :: ws)) _ (fun r hr R hR => ?_) ?_
    · simp -implicitDefEqProofs
      by_cases c : r < wake
      · rw [if_pos c]
        rw [decide_eq_false (by omega)] at hR
        exact hR
      · rw [if_neg c]
        rw [decide_eq_true (by omega)] at hR
        exact hR
    · have e1 : ((rsL (w :: ws)).map fun r => PyData.str (wd (decide (wake ≤ r)))) = dStrs ((bestP wake (rsL (w :: ws))).map wd) := by unfold dStrs bestP; rw [List.map_map, List.map_map]; rfl
      rw [e1]
      unfold t_least_cost_3
      simp -implicitDefEqProofs
      refine up_of ho ?_
      simp -implicitDefEqProofs
      refine up_of (hp _ rfl) ?_
      simp -implicitDefEqProofs
      refine lc_all (enc := PyData.int) (f := fun r => .int (min r wake)) (rsL (w :: ws)) _ (fun r hr R hR => by simp -implicitDefEqProofs; exact hR) ?_
      rw [dI_map, sum_dI]
      simp -implicitDefEqProofs
      exact q
theorem thumb_ok (q : Q (.int (bsI ws wake + thS wake (rsL ws)))) : m_thumb_cost [.v (.tuple (ws.map dW)), .v (.int wake)] Q := by
  unfold m_thumb_cost semD b_thumb_cost
  cases ws with
  | nil =>
    simp -implicitDefEqProofs
    have e : bsI [] wake + thS wake (rsL []) = 0 := by simp [bsI, ownI, rsL_nil, thS]
    rw [e] at q
    exact q
  | cons w ws =>
    have hp := fun Q q => pauses_ok (Q := Q) (ws := w :: ws) q
    have ho := own_ok (Q := fun d => d = .int (ownI (w :: ws))) (ws := w :: ws) rfl
    have hb : bsI (w :: ws) wake = ownI (w :: ws) + wake := by unfold bsI; rw [if_neg (by simp)]
    have hm : mulD (.int 2) (.int wake) = some (.int (2 * wake)) := if_pos (.inl (by unfold small; simp))
    rw [hb] at q
    simp -implicitDefEqProofs
    unfold t_thumb_cost_2
    simp -implicitDefEqProofs
    refine up_of ho ?_
    simp -implicitDefEqProofs
    unfold t_thumb_cost_3
    simp -implicitDefEqProofs
    refine up_of (hp _ rfl) ?_
    simp -implicitDefEqProofs
    unfold dInts
    refine for_pre (enc := PyData.int) (xs := rsL (w :: ws)) (E := fun pre env => ∃ x3, env = [.v (.tuple ((w :: ws).map dW)), .v (.int wake), .v (.int (ownI (w :: ws) + wake + thS wake pre)), x3]) (fun pre r post env R hx he hR => ?_) (fun e he => ?_) ⟨.un, by simp [thS]⟩
    · obtain ⟨x3, rfl⟩ := he
      have hR := fun x3 => hR _ ⟨x3, rfl⟩
      have e1 : thS wake (pre ++ [r]) = thS wake pre + if r ≤ wake then r else wake + wake := by unfold thS; rw [List.map_append, List.sum_append]; simp
      rw [e1] at hR
      unfold l_thumb_cost_1
      simp -implicitDefEqProofs [hm]
      by_cases c : r ≤ wake
      · rw [if_pos c] at hR ⊢
        rw [← Int.add_assoc] at hR
        exact hR _
      · rw [if_neg c] at hR ⊢
        have e : ownI (w :: ws) + wake + (thS wake pre + (wake + wake)) = ownI (w :: ws) + wake + thS wake pre + 2 * wake := by omega
        rw [e] at hR
        exact hR _
    · obtain ⟨x3, rfl⟩ := he
      unfold t_thumb_cost_4
      simp -implicitDefEqProofs
      exact q
theorem limited_ok (hl : 1 ≤ limit) (hn : ws.length ≤ 1000) (q : Q (.tuple [.int (bsI ws wake + cE wake (rsL ws) (qL wake (rsL ws) (limit - 1).toNat)), plD (plQ (rsL ws) (qL wake (rsL ws) (limit - 1).toNat))])) : m_limited_cost [.v (.tuple (ws.map dW)), .v (.int wake), .v (.int limit)] Q := by
  unfold m_limited_cost semD b_limited_cost
  cases ws with
  | nil =>
    simp -implicitDefEqProofs
    have e : bsI [] wake + cE wake (rsL []) (qL wake (rsL []) (limit - 1).toNat) = 0 := by simp [bsI, ownI, rsL_nil, cE, enumI]
    rw [e] at q
    exact q
  | cons w ws =>
    have hp := fun Q q => pauses_ok (Q := Q) (ws := w :: ws) q
    have ho := own_ok (Q := fun d => d = .int (ownI (w :: ws))) (ws := w :: ws) rfl
    have hb : bsI (w :: ws) wake = ownI (w :: ws) + wake := by unfold bsI; rw [if_neg (by simp)]
    have hrl : (rsL (w :: ws)).length ≤ 1000 := by
      unfold rsL pairs
      rw [List.length_map, List.length_zip, List.length_drop]
      omega
    rw [hb] at q
    simp -implicitDefEqProofs
    unfold t_limited_cost_2
    simp -implicitDefEqProofs
    refine up_of (hp _ rfl) ?_
    obtain ⟨m, hm⟩ : ∃ m, (limit - 1).toNat = m := ⟨_, rfl⟩
    rw [hm] at q
    generalize rsL (w :: ws) = rs at *
    generalize ownI (w :: ws) = O at *
    have een : enumL 0 (dInts rs) = (EN rs).map dW := enumL_map PyData.int 0 rs
    have hs := lo2.srt (savL wake rs)
    have hs : srt ((savL wake rs).map dW) = (savS wake rs).map dW := hs
    unfold t_limited_cost_3
    simp -implicitDefEqProofs [een]
    refine lc_map (enc := dW) (p := fun x => decide (wake < x.2)) (f := fun x => dW (wake - x.2, x.1)) (EN rs) _ (fun x hx R S h1 h2 => ?_) ?_
    · simp -implicitDefEqProofs [dW]
      by_cases c : wake < x.2
      · rw [if_pos c]; exact h1 (decide_eq_true c)
      · rw [if_neg c]; exact h2 (decide_eq_false c)
    · have e1 : ((EN rs).filter fun x => decide (wake < x.2)).map (fun x => dW (wake - x.2, x.1)) = (savL wake rs).map dW := by unfold savL; rw [List.map_map]; rfl
      rw [e1]
      refine ⟨lo2.srtOk (n := 2) (fun x _ => by simp [flatD]) (PySem.W.Sortable.tuples fun _ => ⟨_, _, rfl⟩), ?_⟩
      rw [hs]
      unfold t_limited_cost_4
      simp -implicitDefEqProofs
      rw [cut_upto (by omega), hm, ← List.map_take]
      refine lc_all (enc := dW) (f := fun x => .int x.2) ((savS wake rs).take m) _ (fun x hx R hR => by simp -implicitDefEqProofs [dW]; exact hR) ?_
      rw [dI_map]
      have eo : ((savS wake rs).take m).map (fun x => x.2) = offL wake rs m := rfl
      rw [eo]
      unfold t_limited_cost_5
      simp -implicitDefEqProofs
      refine up_of ho ?_
      simp -implicitDefEqProofs
      unfold t_limited_cost_6
      simp -implicitDefEqProofs [een]
      refine for_pre (enc := dW) (xs := EN rs) (E := fun pre env => ∃ x5 x6 x8, env = [.v (.tuple ((w :: ws).map dW)), .v (.int wake), .v (.int limit), .v (.list (dInts rs)), .v (.list ((savS wake rs).map dW)), x5, x6, .v (.list (dInts (offL wake rs m))), x8, .v (.int (O + wake + (pre.map fun x => if qL wake rs m x.1 = true then wake else x.2).sum))]) (fun pre x post env R hx he hR => ?_) (fun e he => ?_) ⟨.un, .un, .un, by simp⟩
      · obtain ⟨x5, x6, x8, rfl⟩ := he
        have hR := fun x5 x6 x8 => hR _ ⟨x5, x6, x8, rfl⟩
        rw [List.map_append, List.sum_append] at hR
        unfold l_limited_cost_1
        simp -implicitDefEqProofs [dW]
        rw [in_lI]
        have eq : decide (x.1 ∈ offL wake rs m) = qL wake rs m x.1 := rfl
        rw [eq]
        have es : ([x].map fun x => if qL wake rs m x.1 = true then wake else x.2).sum = if qL wake rs m x.1 = true then wake else x.2 := by simp
        rw [es, ← Int.add_assoc] at hR
        cases c : qL wake rs m x.1
        · rw [c] at hR
          simp -implicitDefEqProofs
          exact hR _ _ _
        · rw [c] at hR
          simp -implicitDefEqProofs
          exact hR _ _ _
      · obtain ⟨x5, x6, x8, rfl⟩ := he
        unfold t_limited_cost_7
        simp -implicitDefEqProofs
        refine ⟨by omega, ?_⟩
        have er : dInts (rng 0 (rs.length : Int)) = (EN rs).map fun x => PyData.int x.1 := by
          have := enumI_fst' 0 rs
          rw [Int.zero_add] at this
          rw [← this]
          unfold dInts
          rw [List.map_map]; rfl
        rw [er]
        refine lc_all (enc := fun x : Int × Int => PyData.int x.1) (f := fun x => .str (wd (qL wake rs m x.1))) (EN rs) _ (fun x hx R hR => ?_) ?_
        · simp -implicitDefEqProofs
          rw [in_lI]
          have eq : decide (x.1 ∈ offL wake rs m) = qL wake rs m x.1 := rfl
          rw [eq]
          cases c : qL wake rs m x.1
          · rw [c] at hR
            simp -implicitDefEqProofs
            exact hR
          · rw [c] at hR
            simp -implicitDefEqProofs
            exact hR
        · have ep : ((EN rs).map fun x => PyData.str (wd (qL wake rs m x.1))) = dStrs ((plQ rs (qL wake rs m)).map wd) := by unfold dStrs plQ; rw [List.map_map, List.map_map]; rfl
          rw [ep]
          exact q
end

end Mi

namespace Mi
open PySem PySem.Spec L2
/-! ### k31: all plans -/
def PL : Nat → List (List Bool)
  | 0 => [[]]
  | k + 1 => (PL k).map (· ++ [true]) ++ (PL k).map (· ++ [false])
theorem PL_mem : ∀ (k : Nat) (p : List Bool), p ∈ PL k ↔ p.length = k
  | 0, p => by simp [PL]
  | k + 1, p => by
    show p ∈ (PL k).map (· ++ [true]) ++ (PL k).map (· ++ [false]) ↔ _
    rw [List.mem_append, List.mem_map, List.mem_map]
    constructor
    · rintro (⟨q, h, rfl⟩ | ⟨q, h, rfl⟩) <;> rw [List.length_append, (PL_mem k q).mp h] <;> rfl
    · intro h
      have hne : p ≠ [] := fun e => by rw [e] at h; cases h
      have e : p = p.dropLast ++ [p.getLast hne] := (List.dropLast_concat_getLast hne).symm
      have hl : p.dropLast.length = k := by rw [List.length_dropLast]; omega
      cases c : p.getLast hne
      · exact .inr ⟨p.dropLast, (PL_mem k _).mpr hl, by rw [e, c]; simp⟩
      · exact .inl ⟨p.dropLast, (PL_mem k _).mpr hl, by rw [e, c]; simp⟩
theorem PL_len : ∀ k : Nat, (PL k).length = 2 ^ k
  | 0 => rfl
  | k + 1 => by
    show ((PL k).map (· ++ [true]) ++ (PL k).map (· ++ [false])).length = _
    rw [List.length_append, List.length_map, List.length_map, PL_len k, Nat.pow_succ]; omega
theorem PL_16 {k : Nat} (h : k ≤ 4) : (PL k).length ≤ 16 ∧ 0 < (PL k).length := by
  rw [PL_len]
  exact ⟨Nat.le_trans (Nat.pow_le_pow_right (by omega) h) (by decide), Nat.pow_pos (by omega)⟩
theorem wd_inj {a b : Bool} (h : wd a = wd b) : a = b := by
  have h1 : ¬ ("off" : Str) = "on" := by decide +kernel
  have h2 : ¬ ("on" : Str) = "off" := by decide +kernel
  cases a <;> cases b
  · rfl
  · exact absurd h h2
  · exact absurd h h1
  · rfl
theorem wds_inj : ∀ {p q : List Bool}, p.map wd = q.map wd → p = q
  | [], [], _ => rfl
  | [], _ :: _, h => by cases h
  | _ :: _, [], h => by cases h
  | a :: p, b :: q, h => by
    rw [List.map_cons, List.map_cons] at h
    injection h with h1 h2
    rw [wd_inj h1, wds_inj h2]
def kyP (p : List Bool) : List Key := p.map fun b => .inr (wd b)
theorem kt_plD (p : List Bool) : ktOf (plD p) = some (kyP p) := by
  have : plD p = .tuple ((kyP p).map kD) := by unfold plD kyP dStrs; rw [List.map_map, List.map_map]; rfl
  rw [this, ktOf_map]
theorem kyP_inj {p q : List Bool} (h : kyP p = kyP q) : p = q := by
  have e : ∀ p : List Bool, kyP p = (p.map wd).map Sum.inr := fun p => by unfold kyP; rw [List.map_map]; rfl
  rw [e, e] at h
  have : ∀ {a b : List Str}, a.map (Sum.inr : Str → Key) = b.map Sum.inr → a = b := by
    intro a
    induction a with
    | nil => intro b h; cases b with | nil => rfl | cons _ _ => cases h
    | cons x a ih =>
      intro b h
      cases b with
      | nil => cases h
      | cons y b =>
        rw [List.map_cons, List.map_cons] at h
        injection h with h1 h2
        injection h1 with h1
        rw [h1, ih h2]
  exact wds_inj (this h)
theorem getT_put (kvs : List (List Key × D)) (k : List Key) (v : D) : getT (putT kvs k v) k = some v := by
  unfold putT
  split
  · rename_i h
    induction kvs with
    | nil => cases h
    | cons p r ih =>
      rw [List.map_cons]
      by_cases c : p.1 = k
      · rw [if_pos c]; unfold getT; simp [c]
      · rw [if_neg c]
        have h' : (r.any fun p => decide (p.1 = k)) = true := by rw [List.any_cons, decide_eq_false c, Bool.false_or] at h; exact h
        have := ih h'
        unfold getT at *
        rw [List.find?_cons]
        simp only [decide_eq_false c]
        exact this
  · rename_i h
    induction kvs with
    | nil => unfold getT; simp
    | cons p r ih =>
      have h1 : ¬ p.1 = k := fun e => h (by rw [List.any_cons, decide_eq_true e]; rfl)
      have h' : ¬ (r.any fun p => decide (p.1 = k)) = true := fun e => h (by rw [List.any_cons, e]; simp)
      have := ih h'
      unfold getT at *
      rw [List.cons_append, List.find?_cons]
      simp only [decide_eq_false h1]
      exact this
theorem getT_other (kvs : List (List Key × D)) {k k' : List Key} (v : D) (hk : k ≠ k') : getT (putT kvs k v) k' = getT kvs k' := by
  unfold putT
  split
  · rename_i h
    clear h
    induction kvs with
    | nil => rfl
    | cons p r ih =>
      rw [List.map_cons]
      unfold getT at *
      by_cases c : p.1 = k
      · rw [if_pos c, List.find?_cons, List.find?_cons]
        have c2 : ¬ p.1 = k' := fun e => hk (c.symm.trans e)
        simp only [decide_eq_false c2]
        exact ih
      · rw [if_neg c, List.find?_cons, List.find?_cons]
        by_cases c2 : p.1 = k'
        · simp only [decide_eq_true c2]
        · simp only [decide_eq_false c2]
          exact ih
  · rename_i hh
    clear hh
    induction kvs with
    | nil => unfold getT; simp [hk]
    | cons p r ih =>
      unfold getT at *
      rw [List.cons_append, List.find?_cons, List.find?_cons]
      by_cases c2 : p.1 = k'
      · simp only [decide_eq_true c2]
      · simp only [decide_eq_false c2]
        exact ih
/-- what a dict of pairs tells -/
theorem getT_merge (c : List Bool → D) : ∀ (ps : List (List Bool)) (acc : List (List Key × D)) (p : List Bool), (p ∈ ps ∨ getT acc (kyP p) = some (c p)) → getT (mergeT acc (ps.map fun p => (kyP p, c p))) (kyP p) = some (c p)
  | [], acc, p, h => by
    rcases h with h | h
    · cases h
    · exact h
  | q :: ps, acc, p, h => by
    show getT (mergeT (putT acc (kyP q) (c q)) (ps.map fun p => (kyP p, c p))) (kyP p) = _
    refine getT_merge c ps _ p ?_
    by_cases e : q = p
    · subst e; exact .inr (getT_put _ _ _)
    · rcases h with h | h
      · rcases List.mem_cons.mp h with h | h
        · exact absurd h.symm e
        · exact .inl h
      · refine .inr ?_
        rw [getT_other _ _ (fun z => e (kyP_inj z))]
        exact h
theorem pairsT_plans (c : List Bool → D) : ∀ ps : List (List Bool), pairsT (ps.map fun p => .tuple [plD p, c p]) = some (ps.map fun p => (kyP p, c p))
  | [] => rfl
  | p :: ps => by
    show (ktOf (plD p)).bind (fun k => (pairsT (ps.map fun p => .tuple [plD p, c p])).map fun l => (k, c p) :: l) = _
    rw [kt_plD, pairsT_plans c ps]
    rfl
theorem offN_of {rs : List Int} {p : List Bool} (h : p.length = rs.length) : offN rs (qOf p) = (p.filter id).length := by
  have e := plQ_of h
  conv => rhs; rw [← e]
  unfold plQ offN
  rw [List.filter_map, List.length_map]
  rfl
theorem cS_of {wake : Int} {rs : List Int} {p : List Bool} (h : p.length = rs.length) : cS wake p rs = cE wake rs (qOf p) := by
  rw [← cS_q, plQ_of h]
theorem plQ_len (rs : List Int) (q : Int → Bool) : (plQ rs q).length = rs.length := by
  unfold plQ
  rw [List.length_map, enumI_len]
theorem offN_q {rs : List Int} (q : Int → Bool) : ((plQ rs q).filter id).length = offN rs q := by
  unfold plQ offN
  rw [List.filter_map, List.length_map]
  rfl

end Mi

namespace Mi
open PySem PySem.Spec L2
/-! ### k31: the law of power -/
theorem flat_off (b : Bool) : flatD 1 (.str (wd b)) = true := by cases b <;> decide +kernel
theorem flat_plD (p : List Bool) : flatD 2 (plD p) = true := by
  unfold plD dStrs
  rw [List.map_map]
  unfold flatD
  rw [List.all_eq_true]
  intro x hx
  obtain ⟨b, _, rfl⟩ := List.mem_map.mp hx
  exact flat_off b
theorem cod_wd : Cod (fun b : Bool => PyData.str (wd b)) := ⟨fun a b => (cod_str.1 (wd a) (wd b)).trans (decide_eq_decide.mpr ⟨wd_inj, fun e => by rw [e]⟩)⟩
theorem plD_eq (p : List Bool) : plD p = .tuple (p.map fun b => PyData.str (wd b)) := by unfold plD dStrs; rw [List.map_map]; rfl
theorem cod_plD : Cod plD := ⟨fun a b => by
  rw [plD_eq, plD_eq]
  exact cod_wd.tup.1 a b⟩
theorem eq_off (b : Bool) : eqD (.str (wd b)) (.str (Str.ofString "off")) = some (.bool b) := by
  have h : decide (wd b = Str.ofString "off") = b := by cases b <;> decide +kernel
  exact (eq_s (x := wd b) (z := Str.ofString "off")).trans (by rw [h])
theorem eq_on (b : Bool) : eqD (.str (wd b)) (.str (Str.ofString "on")) = some (.bool (!b)) := by
  have h : decide (wd b = Str.ofString "on") = !b := by cases b <;> decide +kernel
  exact (eq_s (x := wd b) (z := Str.ofString "on")).trans (by rw [h])
theorem cnt_off (p : List Bool) : cntL (dStrs (p.map wd)) (.str (Str.ofString "off")) = some (.int ((p.filter id).length : Nat)) := by
  have e : dStrs (p.map wd) = p.map fun b => PyData.str (wd b) := by unfold dStrs; rw [List.map_map]; rfl
  have h := cod_wd.cnt (xs := p) (a := true) (n := 1) (flat_off true) (fun x _ => flat_off x)
  rw [e]
  have e2 : PyData.str (wd true) = .str (Str.ofString "off") := rfl
  rw [e2] at h
  rw [h]
  have : ∀ p : List Bool, p.count true = (p.filter id).length := fun p => by
    induction p with
    | nil => rfl
    | cons b p ih => cases b <;> simp [ih]
  rw [this]
section
variable {Q : D → Prop} {ws : List (Int × Int)} {wake limit : Int}
structure WOk (ws : List (Int × Int)) : Prop where
  len : ws.length ≤ 5
  rs : ∀ r ∈ rsL ws, 0 ≤ r
  own : 0 ≤ ownI ws
theorem WOk.rl (h : WOk ws) : (rsL ws).length ≤ 4 := by
  have := h.len
  unfold rsL pairs
  rw [List.length_map, List.length_zip, List.length_drop]
  omega
def kQ (Q : D → Prop) : Ks := { nx := fun _ => Q .none, rt := Q, bk := fun _ => False, ct := fun _ => False }
variable {x1 x2 x3 x4 x5 x6 x7 x8 x9 x10 x11 x12 x13 x14 x15 x16 x17 x18 x19 x20 x21 : Sl}
/-- the cost of a plan -/
def cP (ws : List (Int × Int)) (wake : Int) (p : List Bool) : Int := bsI ws wake + cS wake p (rsL ws)
abbrev coD (ws : List (Int × Int)) (wake : Int) : Sl := .v (.dict (ktM (mergeT [] ((PL (rsL ws).length).map fun p => (kyP p, PyData.int (cP ws wake p))))))
theorem coD_get {p : List Bool} (h : p.length = (rsL ws).length) : getT (mergeT [] ((PL (rsL ws).length).map fun p => (kyP p, PyData.int (cP ws wake p)))) (kyP p) = some (.int (cP ws wake p)) := getT_merge (fun p => .int (cP ws wake p)) _ [] p (.inl ((PL_mem _ p).mpr h))
abbrev E31 (ws : List (Int × Int)) (wake limit : Int) (x2 x3 x7 x8 x10 x11 x12 x13 x14 x15 x16 x17 x18 x19 x20 x21 : Sl) : En := [.dr, .v (.tuple (ws.map dW)), x2, x3, .v (.int wake), .v (.int limit), .v (.list (dInts (rsL ws))), x7, x8, .v (.list ((PL (rsL ws).length).map plD)), x10, x11, x12, x13, x14, x15, x16, x17, x18, x19, x20, x21]
variable {K : Ks}
theorem ezip {rs : List Int} (q : Int → Bool) : zipL (dStrs ((plQ rs q).map wd)) (dInts rs) = (EN rs).map fun x => .tuple [.str (wd (q x.1)), .int x.2] := by
  have e1 : dStrs ((plQ rs q).map wd) = (EN rs).map fun x => .str (wd (q x.1)) := by unfold dStrs plQ; rw [List.map_map, List.map_map]; rfl
  have e2 : dInts rs = (EN rs).map fun x => .int x.2 := by
    conv => lhs; rw [← enumI_snd' 0 rs]
    unfold dInts
    rw [List.map_map]; rfl
  rw [e1, e2, zipL_map (fun x : Int × Int => PyData.str (wd (q x.1))) (fun x : Int × Int => PyData.int x.2)]
  have e3 : (EN rs).zip (EN rs) = (EN rs).map fun x => (x, x) := by
    have := zip_maps (id : Int × Int → Int × Int) id (EN rs)
    simpa using this
  rw [e3, List.map_map]
  rfl
theorem at_pl {rs : List Int} (q : Int → Bool) {j : Nat} (hj : j < rs.length) : ∃ r, ((j : Int), r) ∈ EN rs ∧ atI (dInts rs) (j : Int) = some (.int r) ∧ atI (dStrs ((plQ rs q).map wd)) (j : Int) = some (.str (wd (q (j : Int)))) := by
  have hg : (EN rs)[j]? = some ((j : Int), rs[j]) := by
    rw [enumI_get, List.getElem?_eq_getElem hj]
    simp
  refine ⟨rs[j], List.mem_of_getElem? hg, at_some (j := j) rfl (by unfold dInts; rw [List.getElem?_map, List.getElem?_eq_getElem hj]; rfl), at_some (j := j) rfl ?_⟩
  unfold dStrs plQ
  rw [List.map_map, List.map_map, List.getElem?_map, hg]
  rfl
theorem pow_18 {rs : List Int} {q : Int → Bool} {O : Int} {x1 x9 : Sl} (hl : rs.length ≤ 1000) (hord : ∀ i j r t, (i, r) ∈ EN rs → (j, t) ∈ EN rs → q i = true → q j = false → ¬ (r < t ∨ (t = r ∧ j < i))) (hK : K.rt (.bool true)) :
    t__law_power_18 K [.dr, x1, x2, x3, x4, x5, .v (.list (dInts rs)), x7, x8, x9, x10, x11, x12, x13, x14, x15, x16, x17, x18, x19, .v (.tuple [.int O, plD (plQ rs q)]), x21] := by
  unfold t__law_power_18
  simp -implicitDefEqProofs
  refine ⟨by omega, ?_⟩
  refine for_idx (E := fun j env => ∃ x3 x21, env = [.dr, x1, x2, x3, x4, x5, .v (.list (dInts rs)), x7, x8, x9, x10, x11, x12, x13, x14, x15, x16, x17, x18, x19, .v (.tuple [.int O, plD (plQ rs q)]), x21]) (fun j d env R hd he hR => ?_) (fun e he => ?_) ⟨_, _, rfl⟩
  · obtain ⟨x3, x21, rfl⟩ := he
    obtain ⟨hd', hj⟩ := rng_get hd
    rw [Int.zero_add] at hd' hj
    subst hd'
    obtain ⟨r, m1, a1, b1⟩ := at_pl q (j := j) (rs := rs) (by omega)
    unfold l__law_power_4
    simp -implicitDefEqProofs
    refine ⟨by omega, ?_⟩
    refine for_idx (E := fun k env => ∃ x3, env = [.dr, x1, x2, x3, x4, x5, .v (.list (dInts rs)), x7, x8, x9, x10, x11, x12, x13, x14, x15, x16, x17, x18, x19, .v (.tuple [.int O, plD (plQ rs q)]), .v (.int (j : Int))]) (fun k d env R2 hd2 he hR2 => ?_) (fun e he => ?_) ⟨_, rfl⟩
    · obtain ⟨x3, rfl⟩ := he
      obtain ⟨hd', hk⟩ := rng_get hd2
      rw [Int.zero_add] at hd' hk
      subst hd'
      obtain ⟨t, m2, a2, b2⟩ := at_pl q (j := k) (rs := rs) (by omega)
      have ho := hord k j t r m2 m1
      have hR2 := fun x3 => hR2 _ ⟨x3, rfl⟩
      unfold l__law_power_3
      simp -implicitDefEqProofs [plD, a1, a2, b1, b2, eq_on, eq_off]
      have w1 : wd false = Str.ofString "on" := by decide +kernel
      have w2 : ¬ wd true = Str.ofString "on" := by decide +kernel
      have w3 : wd true = Str.ofString "off" := by decide +kernel
      have w4 : ¬ wd false = Str.ofString "off" := by decide +kernel
      unfold plD at hR2
      cases c1 : q (j : Int)
      · rw [if_pos w1]
        cases c2 : q (k : Int)
        · rw [if_neg w4]; exact hR2 _
        · rw [if_pos w3]
          have := ho c2 c1
          rw [if_neg (by omega)]
          by_cases c3 : r = t
          · rw [if_pos c3, if_neg (by omega)]; exact hR2 _
          · rw [if_neg c3]; exact hR2 _
      · rw [if_neg w2]; exact hR2 _
    · obtain ⟨x3, rfl⟩ := he
      exact hR _ ⟨_, _, rfl⟩
  · obtain ⟨x3, x21, rfl⟩ := he
    unfold t__law_power_19
    simp -implicitDefEqProofs
    exact hK
theorem pow_14 (h : WOk ws) (h0 : 0 ≤ wake) (hl : 1 ≤ limit) (hK : K.rt (.bool true)) : t__law_power_14 K (E31 ws wake limit x2 x3 x7 x8 x10 x11 x12 x13 x14 x15 (coD ws wake) x17 x18 x19 x20 x21) := by
  have hrl := h.rl
  obtain ⟨hp16, hp0⟩ := PL_16 hrl
  unfold t__law_power_14
  simp -implicitDefEqProofs
  refine lc_map (enc := plD) (p := fun p => decide ((p.filter id).length < limit.toNat)) (f := plD) (PL (rsL ws).length) _ (fun p hp R S h1 h2 => ?_) ?_
  · simp -implicitDefEqProofs [plD]
    rw [cnt_off]
    simp -implicitDefEqProofs
    by_cases c : ((p.filter id).length : Int) < limit
    · rw [if_pos c]; exact h1 (decide_eq_true (by omega))
    · rw [if_neg c]; exact h2 (decide_eq_false (by omega))
  · have hlim := limited_ok (Q := fun d => d = .tuple [.int (bsI ws wake + cE wake (rsL ws) (qL wake (rsL ws) (limit - 1).toNat)), plD (plQ (rsL ws) (qL wake (rsL ws) (limit - 1).toNat))]) (ws := ws) (wake := wake) hl (by have := h.len; omega) rfl
    obtain ⟨m, hm⟩ : ∃ m, (limit - 1).toNat = m := ⟨_, rfl⟩
    rw [hm] at hlim
    have hm2 : limit.toNat = m + 1 := by omega
    rw [hm2]
    have hql := plQ_len (rsL ws) (qL wake (rsL ws) m)
    have hle := fun p (hp : p.length = (rsL ws).length) (hf : (p.filter id).length ≤ m) => lim_least (wake := wake) (rs := rsL ws) (m := m) (qOf p) (by rw [offN_of hp]; exact hf)
    have hfew : ((plQ (rsL ws) (qL wake (rsL ws) m)).filter id).length ≤ m := by rw [offN_q]; exact lim_few
    have hcs : cP ws wake (plQ (rsL ws) (qL wake (rsL ws) m)) = bsI ws wake + cE wake (rsL ws) (qL wake (rsL ws) m) := by unfold cP; rw [cS_q]
    have hmem : plQ (rsL ws) (qL wake (rsL ws) m) ∈ (PL (rsL ws).length).filter fun p => decide ((p.filter id).length < m + 1) := List.mem_filter.mpr ⟨(PL_mem _ _).mpr hql, decide_eq_true (by omega)⟩
    unfold t__law_power_15
    simp -implicitDefEqProofs
    refine up_of hlim ?_
    unfold t__law_power_16
    simp -implicitDefEqProofs
    have hB : ∀ p ∈ (PL (rsL ws).length).filter (fun p => decide ((p.filter id).length < m + 1)), p.length = (rsL ws).length ∧ (p.filter id).length ≤ m := fun p hp => by
      obtain ⟨g1, g2⟩ := List.mem_filter.mp hp
      exact ⟨(PL_mem _ _).mp g1, by have := of_decide_eq_true g2; omega⟩
    have hget := fun p hp => coD_get (ws := ws) (wake := wake) (p := p) hp
    have hoff : ∀ i r, (i, r) ∈ EN (rsL ws) → qL wake (rsL ws) m i = true → wake < r := fun i r h1 h2 => qL_off h1 h2
    have hord := fun i j r t => lim_order (wake := wake) (rs := rsL ws) (m := m) (i := i) (j := j) (r := r) (t := t)
    generalize (PL (rsL ws).length).filter (fun p => decide ((p.filter id).length < m + 1)) = B at *
    have hBne : 0 < B.length := List.length_pos_of_mem hmem
    have hminB : minL (B.map (cP ws wake)) = bsI ws wake + cE wake (rsL ws) (qL wake (rsL ws) m) := by
      obtain ⟨g1, g2⟩ := minL_spec (l := B.map (cP ws wake)) (by rw [List.length_map]; exact hBne)
      refine Int.le_antisymm ?_ ?_
      · rw [← hcs]; exact g2 _ (List.mem_map.mpr ⟨_, hmem, rfl⟩)
      · obtain ⟨p, hp, e⟩ := List.mem_map.mp g1
        rw [← e]
        obtain ⟨k1, k2⟩ := hB p hp
        have := hle p k1 k2
        unfold cP
        rw [cS_of k1]
        omega
    refine lc_all (enc := plD) (f := fun p => .int (cP ws wake p)) B _ (fun p hp R hR => ?_) ?_
    · simp -implicitDefEqProofs [kt_plD]
      rw [hget p (hB p hp).1]
      exact hR
    · rw [dI_map, min_dI (by rw [List.length_map]; exact hBne), hminB]
      have hnin : ninD (plD (plQ (rsL ws) (qL wake (rsL ws) m))) (.list (B.map plD)) = some (.bool false) := by
        rw [cod_plD.ninDL (xs := B) (n := 2) (flat_plD _) (fun x _ => flat_plD x)]
        simp [hmem]
      simp -implicitDefEqProofs [hnin, kt_plD]
      rw [hget _ hql, hcs]
      simp -implicitDefEqProofs
      unfold t__law_power_17
      simp -implicitDefEqProofs
      have eit : itemsOf (plD (plQ (rsL ws) (qL wake (rsL ws) m))) = some (dStrs ((plQ (rsL ws) (qL wake (rsL ws) m)).map wd)) := rfl
      rw [eit]
      simp -implicitDefEqProofs
      rw [ezip]
      refine lc_all (enc := fun x : Int × Int => .tuple [.str (wd (qL wake (rsL ws) m x.1)), .int x.2]) (f := fun _ => .bool false) (EN (rsL ws)) _ (fun x hx R hR => ?_) ?_
      · have w3 : wd true = Str.ofString "off" := by decide +kernel
        have w4 : ¬ wd false = Str.ofString "off" := by decide +kernel
        simp -implicitDefEqProofs
        cases c : qL wake (rsL ws) m x.1
        · rw [if_neg w4]
          exact hR
        · have := hoff x.1 x.2 hx c
          rw [if_pos w3, decide_eq_false (by omega)]
          exact hR
      · have ea : anyD (.list ((EN (rsL ws)).map fun _ => PyData.bool false)) = some (.bool false) := by rw [any_map]; simp
        rw [ea]
        simp -implicitDefEqProofs
        exact pow_18 (by omega) hord hK
end

end Mi

namespace Mi
open PySem PySem.Spec L2
/-! ### k31: the law of power, from its first line -/
section
variable {Q : D → Prop} {ws : List (Int × Int)} {wake limit : Int} {K : Ks}
variable {x1 x2 x3 x4 x5 x6 x7 x8 x9 x10 x11 x12 x13 x14 x15 x16 x17 x18 x19 x20 x21 : Sl}
def beI (ws : List (Int × Int)) (wake : Int) : Int := bsI ws wake + ((rsL ws).map fun r => min r wake).sum
theorem bs_nn (h : WOk ws) (h0 : 0 ≤ wake) : 0 ≤ bsI ws wake := by
  have := h.own
  unfold bsI
  split <;> omega
theorem pl_plD (p : List Bool) (h : p.length ≤ 1000) {n : Nat} : pl (n + 2) (plD p) = true := by
  unfold plD dStrs pl
  rw [Bool.and_eq_true, decide_eq_true_eq, List.length_map, List.length_map, List.all_eq_true]
  refine ⟨by omega, fun x hx => ?_⟩
  obtain ⟨s, _, rfl⟩ := List.mem_map.mp hx
  rfl
theorem pow_11 (h : WOk ws) (h0 : 0 ≤ wake) (hl : 1 ≤ limit) (hK : K.rt (.bool true)) : t__law_power_11 K (E31 ws wake limit x2 x3 x7 x8 x10 (.v (plD (bestP wake (rsL ws)))) x12 (.v (.int (bsI ws wake))) x14 x15 (coD ws wake) (.v (.int (beI ws wake))) x18 x19 x20 x21) := by
  have hrl := h.rl
  have hlc := least_cost_ok (Q := fun d => d = .tuple [.int (beI ws wake), plD (bestP wake (rsL ws))]) (ws := ws) (wake := wake) rfl
  have hbl : (bestP wake (rsL ws)).length = (rsL ws).length := by unfold bestP; rw [List.length_map]
  have hcb : cP ws wake (bestP wake (rsL ws)) = beI ws wake := by unfold cP beI; rw [best_cost]
  have h14 := fun x10 x18 => pow_14 (K := K) (x2 := x2) (x3 := x3) (x7 := x7) (x8 := x8) (x10 := x10) (x11 := .v (plD (bestP wake (rsL ws)))) (x12 := x12) (x13 := .v (.int (bsI ws wake))) (x14 := x14) (x15 := x15) (x17 := .v (.int (beI ws wake))) (x18 := x18) (x19 := x19) (x20 := x20) (x21 := x21) h h0 hl hK
  unfold t__law_power_11
  simp -implicitDefEqProofs
  refine up_of hlc ?_
  refine up_of ⟨_, rfl, ?_, rfl⟩ ?_
  · have := pl_plD (n := 5) (bestP wake (rsL ws)) (by omega)
    unfold pl
    simp [this, pl]
  · simp -implicitDefEqProofs [kt_plD]
    rw [coD_get hbl, hcb]
    simp -implicitDefEqProofs
    unfold t__law_power_12
    simp -implicitDefEqProofs
    refine lc_all (enc := PyData.int) (f := fun r => .int (if r ≤ wake then r else wake + wake)) (rsL ws) _ (fun r hr R hR => ?_) ?_
    · simp -implicitDefEqProofs
      by_cases c : r ≤ wake
      · rw [if_pos c] at hR ⊢; exact hR
      · rw [if_neg c] at hR ⊢; exact hR
    · rw [dI_map, sum_dI]
      have et : ((rsL ws).map fun r => if r ≤ wake then r else wake + wake).sum = thS wake (rsL ws) := rfl
      rw [et]
      simp -implicitDefEqProofs
      unfold t__law_power_13
      simp -implicitDefEqProofs
      refine up_of (thumb_ok (Q := fun d => d = .int (bsI ws wake + thS wake (rsL ws))) rfl) ?_
      refine up_of ⟨_, rfl, rfl, rfl⟩ ?_
      have hm : mulD (.int 2) (.int (beI ws wake)) = some (.int (2 * beI ws wake)) := if_pos (.inl (by unfold small; simp))
      have h2 := th_two h0 (rsL ws) h.rs
      have hb := bs_nn h h0
      simp -implicitDefEqProofs [hm]
      rw [if_neg (by unfold beI; omega)]
      exact h14 _ _
theorem pow_4 (h : WOk ws) (h0 : 0 ≤ wake) (hl : 1 ≤ limit) (hK : K.rt (.bool true)) : t__law_power_4 K [.dr, .v (.tuple (ws.map dW)), x2, x3, .v (.int wake), .v (.int limit), x6, x7, x8, x9, x10, x11, x12, x13, x14, x15, x16, x17, x18, x19, x20, x21] := by
  have hrl := h.rl
  obtain ⟨hp16, hp0⟩ := PL_16 hrl
  unfold t__law_power_4
  simp -implicitDefEqProofs
  rw [zipL_pairs]
  refine lc_all (enc := fun p : (Int × Int) × (Int × Int) => .tuple [dW p.1, dW p.2]) (f := fun p => .int (p.2.1 - p.1.2)) (pairs ws) _ (fun p hp R hR => ?_) ?_
  · have b0 : atI [PyData.int p.2.1, PyData.int p.2.2] 0 = some (.int p.2.1) := at_some (j := 0) rfl rfl
    have b1 : atI [PyData.int p.1.1, PyData.int p.1.2] 1 = some (.int p.1.2) := at_some (j := 1) rfl rfl
    simp -implicitDefEqProofs [dW, b0, b1]
    exact hR
  · rw [dI_map]
    have er : (pairs ws).map (fun p => p.2.1 - p.1.2) = rsL ws := rfl
    rw [er]
    unfold t__law_power_5
    simp -implicitDefEqProofs
    unfold t__law_power_6
    simp -implicitDefEqProofs
    have ed : dInts (rsL ws) = (rsL ws).map PyData.int := rfl
    rw [ed]
    refine for_pre (enc := PyData.int) (xs := rsL ws) (E := fun pre env => ∃ x10 x11 x12, env = [.dr, .v (.tuple (ws.map dW)), x2, x3, .v (.int wake), .v (.int limit), .v (.list (dInts (rsL ws))), x7, x8, .v (.list ((PL pre.length).map plD)), x10, x11, x12, x13, x14, x15, x16, x17, x18, x19, x20, x21]) (fun pre r post env R hx he hR => ?_) (fun e he => ?_) ⟨_, _, _, rfl⟩
    · obtain ⟨x10, x11, x12, rfl⟩ := he
      have hpl : pre.length ≤ 4 := by
        have : (rsL ws).length = pre.length + (post.length + 1) := by rw [hx, List.length_append, List.length_cons]
        omega
      obtain ⟨g16, _⟩ := PL_16 hpl
      have hR := fun x10 x11 x12 => hR _ ⟨x10, x11, x12, rfl⟩
      rw [List.length_append] at hR
      have hPl := fun p (hp : p ∈ PL pre.length) => (PL_mem _ p).mp hp
      have eS : PL (pre.length + [r].length) = (PL pre.length).map (· ++ [true]) ++ (PL pre.length).map (· ++ [false]) := rfl
      rw [eS] at hR
      generalize PL pre.length = P at *
      unfold l__law_power_2
      simp -implicitDefEqProofs
      refine lc_all (enc := plD) (f := fun p => .tuple [plD p, .str (wd true)]) P _ (fun p hp R hR => by simp -implicitDefEqProofs; exact hR) ?_
      refine lc_all (enc := plD) (f := fun p => .tuple [plD p, .str (wd false)]) P _ (fun p hp R hR => by simp -implicitDefEqProofs; exact hR) ?_
      have e1 : (P.map fun p => PyData.tuple [plD p, .str (wd true)]) = (P.map fun p => (p, true)).map fun x => .tuple [plD x.1, .str (wd x.2)] := by rw [List.map_map]; rfl
      have e2 : (P.map fun p => PyData.tuple [plD p, .str (wd false)]) = (P.map fun p => (p, false)).map fun x => .tuple [plD x.1, .str (wd x.2)] := by rw [List.map_map]; rfl
      rw [e1, e2, add_ll (by rw [List.length_map, List.length_map, List.length_map, List.length_map]; omega), ← List.map_append]
      have hmm : ((P.map fun p => (p, true)) ++ P.map fun p => (p, false)).map (fun x => plD (x.1 ++ [x.2])) = ((P.map (· ++ [true]) ++ P.map (· ++ [false])).map plD) := by rw [List.map_append, List.map_append, List.map_map, List.map_map, List.map_map, List.map_map]; rfl
      rw [← hmm] at hR
      have hxs : ∀ x ∈ (P.map fun p => (p, true)) ++ P.map (fun p => (p, false)), x.1.length ≤ 4 := fun x hx => by
        rcases List.mem_append.mp hx with hx | hx
        · obtain ⟨p, hp, rfl⟩ := List.mem_map.mp hx; have := hPl p hp; show p.length ≤ 4; omega
        · obtain ⟨p, hp, rfl⟩ := List.mem_map.mp hx; have := hPl p hp; show p.length ≤ 4; omega
      generalize (P.map fun p => (p, true)) ++ P.map (fun p => (p, false)) = L at *
      simp -implicitDefEqProofs
      refine lc_all (enc := fun x : List Bool × Bool => .tuple [plD x.1, .str (wd x.2)]) (f := fun x => plD (x.1 ++ [x.2])) L _ (fun x hx R hR => ?_) ?_
      · have hxl := hxs x hx
        simp -implicitDefEqProofs [plD]
        rw [add_tt (by unfold dStrs; rw [List.length_map, List.length_map]; simp; omega)]
        have e : dStrs (x.1.map wd) ++ [PyData.str (wd x.2)] = dStrs ((x.1 ++ [x.2]).map wd) := by unfold dStrs; rw [List.map_append, List.map_append]; rfl
        rw [e]
        exact hR
      · exact hR (.v (.int r)) x11 x12
    · obtain ⟨x10, x11, x12, rfl⟩ := he
      unfold t__law_power_7
      simp -implicitDefEqProofs
      refine lc_all (enc := dW) (f := fun w => .int (w.2 - w.1)) ws _ (fun w hw R hR => by simp -implicitDefEqProofs [dW]; exact hR) ?_
      rw [dI_map, sum_dI]
      have eo : (ws.map fun w => w.2 - w.1).sum = ownI ws := rfl
      rw [eo]
      have fin : ∀ x14 x15, t__law_power_8 K (E31 ws wake limit x2 x3 x7 x8 x10 x11 x12 (.v (.int (bsI ws wake))) x14 x15 x16 x17 x18 x19 x20 x21) := fun x14 x15 => by
        unfold t__law_power_8
        simp -implicitDefEqProofs
        refine lc_all (enc := plD) (f := fun p => .tuple [plD p, .int (cP ws wake p)]) (PL (rsL ws).length) _ (fun p hp R hR => ?_) ?_
        · have hpl := (PL_mem _ p).mp hp
          have e0 : plD p = .tuple (dStrs ((plQ (rsL ws) (qOf p)).map wd)) := by rw [plQ_of hpl]; rfl
          have eit : itemsOf (plD p) = some (dStrs ((plQ (rsL ws) (qOf p)).map wd)) := by rw [e0]; rfl
          simp -implicitDefEqProofs [eit]
          rw [ezip]
          have w3 : wd true = Str.ofString "off" := by decide +kernel
          have w4 : ¬ wd false = Str.ofString "off" := by decide +kernel
          refine lc_all (enc := fun x : Int × Int => .tuple [.str (wd (qOf p x.1)), .int x.2]) (f := fun x => .int (if qOf p x.1 = true then wake else x.2)) (EN (rsL ws)) _ (fun x hx R hR => ?_) ?_
          · simp -implicitDefEqProofs
            cases c : qOf p x.1
            · rw [c] at hR
              rw [if_neg w4]; exact hR
            · rw [c] at hR
              rw [if_pos w3]; exact hR
          · rw [dI_map, sum_dI]
            have ec : ((EN (rsL ws)).map fun x => if qOf p x.1 = true then wake else x.2).sum = cS wake p (rsL ws) := by rw [cS_of hpl]; rfl
            rw [ec]
            simp -implicitDefEqProofs
            exact hR
        · have hpt := pairsT_plans (fun p => .int (cP ws wake p)) (PL (rsL ws).length)
          simp -implicitDefEqProofs [hpt]
          unfold t__law_power_9
          simp -implicitDefEqProofs
          refine lc_all (enc := plD) (f := fun p => .int (cP ws wake p)) (PL (rsL ws).length) _ (fun p hp R hR => ?_) ?_
          · simp -implicitDefEqProofs [kt_plD]
            rw [coD_get ((PL_mem _ p).mp hp)]
            exact hR
          · have hbl : (bestP wake (rsL ws)).length = (rsL ws).length := by unfold bestP; rw [List.length_map]
            have hmin : minL ((PL (rsL ws).length).map (cP ws wake)) = beI ws wake := by
              obtain ⟨g1, g2⟩ := minL_spec (l := (PL (rsL ws).length).map (cP ws wake)) (by rw [List.length_map]; exact hp0)
              have hcb : cP ws wake (bestP wake (rsL ws)) = beI ws wake := by unfold cP beI; rw [best_cost]
              refine Int.le_antisymm ?_ ?_
              · rw [← hcb]; exact g2 _ (List.mem_map.mpr ⟨_, (PL_mem _ _).mpr hbl, rfl⟩)
              · obtain ⟨p, hp, e⟩ := List.mem_map.mp g1
                rw [← e]
                have := best_least (wake := wake) (rsL ws) p ((PL_mem _ p).mp hp)
                unfold cP beI
                omega
            rw [dI_map, min_dI (by rw [List.length_map]; exact hp0), hmin]
            simp -implicitDefEqProofs
            unfold t__law_power_10
            simp -implicitDefEqProofs
            have ed : dInts (rsL ws) = (rsL ws).map PyData.int := rfl
            rw [ed]
            refine lc_all (enc := PyData.int) (f := fun r => .str (wd (decide (wake ≤ r)))) (rsL ws) _ (fun r hr R hR => ?_) ?_
            · simp -implicitDefEqProofs
              by_cases c : wake ≤ r
              · rw [if_pos c]
                rw [decide_eq_true c] at hR
                exact hR
              · rw [if_neg c]
                rw [decide_eq_false c] at hR
                exact hR
            · have e1 : ((rsL ws).map fun r => PyData.str (wd (decide (wake ≤ r)))) = dStrs ((bestP wake (rsL ws)).map wd) := by unfold dStrs bestP; rw [List.map_map, List.map_map]; rfl
              rw [e1]
              exact pow_11 h h0 hl hK
      simp -implicitDefEqProofs
      by_cases c : ws = []
      · rw [if_pos c]
        have := fin x14 x15
        unfold bsI at this
        rw [if_pos c, Int.add_zero] at this
        exact this
      · rw [if_neg c]
        have := fin x14 x15
        unfold bsI at this
        rw [if_neg c] at this
        exact this
/-! the works drawn -/
structure DrW (ws : List (Int × Int)) (mn : Int) : Prop where
  lt : ∀ w ∈ ws, w.1 + 1 ≤ w.2
  le : ∀ w ∈ ws, w.2 ≤ mn
  so : ws.Pairwise fun a b => a.2 ≤ b.1
theorem DrW.ok {mn : Int} (h : DrW ws mn) (hl : ws.length ≤ 5) : WOk ws := by
  refine ⟨hl, fun r hr => ?_, ?_⟩
  · obtain ⟨p, hp, rfl⟩ := List.mem_map.mp hr
    have := pairs_all h.so p hp
    omega
  · unfold ownI
    have : ∀ L : List (Int × Int), (∀ w ∈ L, w.1 + 1 ≤ w.2) → 0 ≤ (L.map fun w => w.2 - w.1).sum := by
      intro L
      induction L with
      | nil => intro _; simp
      | cons a L ih =>
        intro hL
        have h1 := ih fun w hw => hL w (List.mem_cons_of_mem _ hw)
        have h2 := hL a (by simp)
        simp only [List.map_cons, List.sum_cons]; omega
    exact this ws h.lt
theorem DrW.snoc {mn a g : Int} (h : DrW ws mn) (ha : 0 ≤ a) (hg : 0 ≤ g) : DrW (ws ++ [(mn, mn + 1 + a)]) (mn + 1 + a + 1 + g) := by
  refine ⟨fun w hw => ?_, fun w hw => ?_, ?_⟩
  · rcases List.mem_append.mp hw with hw | hw
    · exact h.lt w hw
    · rw [List.mem_singleton.mp hw]; show mn + 1 ≤ mn + 1 + a; omega
  · rcases List.mem_append.mp hw with hw | hw
    · have := h.le w hw; omega
    · rw [List.mem_singleton.mp hw]; show mn + 1 + a ≤ _; omega
  · rw [List.pairwise_append]
    exact ⟨h.so, by simp, fun x hx y hy => by rw [List.mem_singleton.mp hy]; exact h.le x hx⟩
theorem power_ok (q : Q (.bool true)) : m__law_power [.dr] Q := by
  unfold m__law_power semD b__law_power
  simp -implicitDefEqProofs
  intro mn m0 m1
  unfold t__law_power_2
  simp -implicitDefEqProofs
  intro n n0 n1
  refine ⟨by omega, ?_⟩
  refine for_idx (E := fun i env => ∃ (ws : List (Int × Int)) (mn : Int) (x3 : Sl), ws.length = i ∧ DrW ws mn ∧ env = [.dr, .l (ws.map dW), .v (.int mn), x3, .un, .un, .un, .un, .un, .un, .un, .un, .un, .un, .un, .un, .un, .un, .un, .un, .un, .un]) (fun i d env R hd he hR => ?_) (fun e he => ?_) ⟨[], mn, _, rfl, ⟨by simp, by simp, .nil⟩, rfl⟩
  · obtain ⟨ws, mn, x3, hl, hD, rfl⟩ := he
    obtain ⟨hd', hi⟩ := rng_get hd
    rw [Int.zero_add] at hd' hi
    subst hd'
    unfold l__law_power_1
    simp -implicitDefEqProofs
    intro a a0 a1
    refine ⟨by omega, ?_⟩
    rw [at_end]
    have b1 : atI [PyData.int mn, PyData.int (mn + 1 + a)] 1 = some (.int (mn + 1 + a)) := at_some (j := 1) rfl rfl
    simp -implicitDefEqProofs [b1]
    intro g g0 g1
    exact hR _ ⟨ws ++ [(mn, mn + 1 + a)], mn + 1 + a + 1 + g, _, by rw [List.length_append, hl]; rfl, hD.snoc a0 g0, by rw [List.map_append]; rfl⟩
  · obtain ⟨ws, mn, x3, hl, hD, rfl⟩ := he
    rw [rng_len] at hl
    have hok := hD.ok (by omega)
    unfold t__law_power_3
    simp -implicitDefEqProofs
    intro wk w0 w1 li l0 l1
    exact pow_4 hok w0 (by omega) q
end

end Mi

namespace Mi
open PySem PySem.Spec L2
/-! ### k31: polls, delays, the best period -/
def oI : Option Int → D
  | none => .none
  | some i => .int i
def miL (f e p : Int) : List Int := (rng f (e + 1)).filter fun x => (x - f) % p == 0
def laO (ms : List Int) (c : Int) : Option Int := ((ms.filter fun m => decide (c ≤ m)).head?).map fun m => m - c
theorem mem_rng {a c x : Int} (h : x ∈ rng a c) : a ≤ x ∧ x < c := by
  unfold rng at h
  obtain ⟨i, hi, rfl⟩ := List.mem_map.mp h
  have := List.mem_range.mp hi
  omega
section
variable {Q : D → Prop} {f e p c : Int} {cs ms : List Int} {price miss most : Int}
theorem miL_so (f e p : Int) : (miL f e p).Pairwise (· < ·) := by
  unfold miL
  refine List.Pairwise.filter _ ?_
  unfold rng
  refine List.pairwise_map.mpr ?_
  exact List.pairwise_lt_range.imp fun {a b} h => by omega
theorem miL_len (f e p : Int) (h : e + 1 - f ≤ 1000) : (miL f e p).length ≤ 1000 := by
  unfold miL
  refine Nat.le_trans (List.length_filter_le _ _) ?_
  unfold rng
  rw [List.length_map, List.length_range]; omega
theorem polls_ok (hp : 0 < p ∧ p ≤ 1000) (hf : 0 ≤ f ∧ f ≤ 1000) (he : 0 ≤ e ∧ e ≤ 900) (q : Q (.list (dInts (miL f e p)))) : m_polls [.v (.int f), .v (.int p), .v (.int e)] Q := by
  have hl := miL_len f e p (by omega)
  unfold miL at q hl
  rw [← rngC_eq hp.1] at q hl
  have hr := rngC_len f (e + 1) p
  rw [dInts_len] at hr
  unfold m_polls semD b_polls
  simp -implicitDefEqProofs
  exact ⟨⟨by omega, by omega, by omega, by omega, by omega, by omega, by omega, by omega⟩, q⟩
theorem delays_ok (hc : cs.length ≤ 100) (q : Q (.tuple (cs.map fun c => oI (laO ms c)))) : m_delays [.v (.tuple (dInts cs)), .v (.list (dInts ms))] Q := by
  unfold m_delays semD b_delays
  simp -implicitDefEqProofs
  unfold t_delays_2
  simp -implicitDefEqProofs
  have ed : dInts cs = cs.map PyData.int := rfl
  rw [ed]
  refine for_pre (enc := PyData.int) (xs := cs) (E := fun pre env => ∃ x3 x4 x5, env = [.v (.tuple (cs.map PyData.int)), .v (.list (dInts ms)), .l (pre.map fun c => oI (laO ms c)), x3, x4, x5]) (fun pre c post env R hx he hR => ?_) (fun e he => ?_) ⟨_, _, _, rfl⟩
  · obtain ⟨x3, x4, x5, rfl⟩ := he
    have hR := fun x3 x4 x5 => hR _ ⟨x3, x4, x5, rfl⟩
    have hpl : pre.length ≤ 100 := by rw [hx, List.length_append] at hc; omega
    rw [List.map_append] at hR
    have e1 : [c].map (fun c => oI (laO ms c)) = [oI (laO ms c)] := rfl
    rw [e1] at hR
    unfold laO at hR
    unfold l_delays_1
    simp -implicitDefEqProofs
    unfold dInts
    refine lc_map (enc := PyData.int) (p := fun m => decide (c ≤ m)) (f := PyData.int) ms _ (fun m hm R S h1 h2 => ?_) ?_
    · simp -implicitDefEqProofs
      by_cases cc : c ≤ m
      · rw [if_pos cc]; exact h1 (decide_eq_true cc)
      · rw [if_neg cc]; exact h2 (decide_eq_false cc)
    · generalize ms.filter (fun m => decide (c ≤ m)) = L at *
      cases L with
      | nil =>
        simp -implicitDefEqProofs
        exact ⟨by omega, hR _ _ _⟩
      | cons m L =>
        simp -implicitDefEqProofs
        exact ⟨by omega, hR _ _ _⟩
  · obtain ⟨x3, x4, x5, rfl⟩ := he
    unfold t_delays_3
    simp -implicitDefEqProofs
    exact q
def coF (cs : List Int) (e price miss p : Int) : Int := price * (miL 0 e p).length + (cs.map fun c => (laO (miL 0 e p) c).getD miss).sum
theorem cost_ok (hp : 0 < p ∧ p ≤ 1000) (he : 0 ≤ e ∧ e ≤ 900) (hc : cs.length ≤ 100) (hpr : 0 ≤ price ∧ price ≤ 100) (q : Q (.int (coF cs e price miss p))) : m_cost_of [.v (.tuple (dInts cs)), .v (.int p), .v (.int e), .v (.int price), .v (.int miss)] Q := by
  have hm : mulD (.int price) (.int ((miL 0 e p).length : Int)) = some (.int (price * (miL 0 e p).length)) := if_pos (.inl (by unfold small; simp; omega))
  unfold m_cost_of semD b_cost_of
  simp -implicitDefEqProofs
  refine up_of (polls_ok (f := 0) hp ⟨by omega, by omega⟩ he rfl) ?_
  unfold t_cost_of_2
  simp -implicitDefEqProofs [hm]
  unfold t_cost_of_3
  simp -implicitDefEqProofs
  refine up_of (delays_ok hc rfl) ?_
  unfold coF at q
  generalize miL 0 e p = ms at *
  simp -implicitDefEqProofs
  refine for_pre (enc := fun c => oI (laO ms c)) (xs := cs) (E := fun pre env => ∃ x7, env = [.v (.tuple (dInts cs)), .v (.int p), .v (.int e), .v (.int price), .v (.int miss), .v (.list (dInts ms)), .v (.int (price * ms.length + (pre.map fun c => (laO ms c).getD miss).sum)), x7]) (fun pre c post env R hx he hR => ?_) (fun e he => ?_) ⟨.un, by simp⟩
  · obtain ⟨x7, rfl⟩ := he
    have hR := fun x7 => hR _ ⟨x7, rfl⟩
    rw [List.map_append, List.sum_append] at hR
    have e1 : ([c].map fun c => (laO ms c).getD miss).sum = (laO ms c).getD miss := by simp
    rw [e1, ← Int.add_assoc] at hR
    unfold l_cost_of_1
    cases ec : laO ms c with
    | none =>
      rw [ec] at hR
      simp -implicitDefEqProofs [oI, ec]
      exact hR _
    | some i =>
      rw [ec] at hR
      simp -implicitDefEqProofs [oI, ec]
      exact hR _
  · obtain ⟨x7, rfl⟩ := he
    unfold t_cost_of_4
    simp -implicitDefEqProofs
    exact q
def beS (F : Int → Int) (b : Option (Int × Int)) (p : Int) : Option (Int × Int) := match b with
  | none => some (F p, p)
  | some x => if F p ≤ x.1 then some (F p, p) else some x
def beO (F : Int → Int) (ps : List Int) : Option (Int × Int) := ps.foldl (beS F) none
def oW : Option (Int × Int) → D
  | none => .none
  | some x => dW x
theorem beO_snoc (F : Int → Int) (ps : List Int) (p : Int) : beO F (ps ++ [p]) = beS F (beO F ps) p := by unfold beO; rw [List.foldl_append]; rfl
theorem best_ok (he : 0 ≤ e ∧ e ≤ 900) (hm : 0 ≤ most ∧ most ≤ 100) (hc : cs.length ≤ 100) (hpr : 0 ≤ price ∧ price ≤ 100) (q : Q (oW (beO (coF cs e price miss) (rng 1 (most + 1))))) : m_best_period [.v (.tuple (dInts cs)), .v (.int e), .v (.int price), .v (.int miss), .v (.int most)] Q := by
  unfold m_best_period semD b_best_period
  simp -implicitDefEqProofs
  unfold t_best_period_2
  simp -implicitDefEqProofs
  refine ⟨⟨by omega, by omega⟩, ?_⟩
  have ed : dInts (rng 1 (most + 1)) = (rng 1 (most + 1)).map PyData.int := rfl
  rw [ed]
  refine for_pre (enc := PyData.int) (xs := rng 1 (most + 1)) (E := fun pre env => ∃ x6 x7, env = [.v (.tuple (dInts cs)), .v (.int e), .v (.int price), .v (.int miss), .v (.int most), .v (oW (beO (coF cs e price miss) pre)), x6, x7]) (fun pre p post env R hx he' hR => ?_) (fun e he => ?_) ⟨_, _, rfl⟩
  · obtain ⟨x6, x7, rfl⟩ := he'
    have hR := fun x6 x7 => hR _ ⟨x6, x7, rfl⟩
    rw [beO_snoc] at hR
    have hp : p ∈ rng 1 (most + 1) := by rw [hx]; simp
    obtain ⟨hp1, hp2⟩ := mem_rng hp
    generalize beO (coF cs e price miss) pre = b at *
    unfold l_best_period_1
    simp -implicitDefEqProofs
    refine up_of (cost_ok ⟨by omega, by omega⟩ he hc hpr rfl) ?_
    cases b with
    | none =>
      simp -implicitDefEqProofs [oW]
      exact hR _ _
    | some x =>
      have e1 : beS (coF cs e price miss) (some x) p = if coF cs e price miss p ≤ x.1 then some (coF cs e price miss p, p) else some x := rfl
      rw [e1] at hR
      have b0 : atI [PyData.int x.1, PyData.int x.2] 0 = some (.int x.1) := at_some (j := 0) rfl rfl
      simp -implicitDefEqProofs [oW, dW, b0]
      by_cases cc : coF cs e price miss p ≤ x.1
      · rw [if_pos cc] at hR ⊢; exact hR _ _
      · rw [if_neg cc] at hR ⊢; exact hR _ _
  · obtain ⟨x6, x7, rfl⟩ := he
    unfold t_best_period_3
    simp -implicitDefEqProofs
    exact q
end

end Mi

namespace Mi
open PySem PySem.Spec L2
/-! ### k31: backing off -/
def hitB (cs : List Int) (b m : Int) : Bool := cs.any fun c => decide (b < c) && decide (c ≤ m)
def stP (cs : List Int) (most b m p : Int) : Int := if hitB cs b m = true then 1 else min most (2 * p)
def boF (cs : List Int) (e most : Int) : Nat → Int → Int → Int → List Int
  | 0, _, _, _ => []
  | n + 1, b, m, p => if m ≤ e then m :: boF cs e most n m (m + stP cs most b m p) (stP cs most b m p) else []
section
variable {Q : D → Prop} {e most : Int} {cs : List Int}
theorem stP_1 (hm : 1 ≤ most) {b m p : Int} (hp : 1 ≤ p) : 1 ≤ stP cs most b m p := by
  unfold stP
  split <;> omega
def boT (cs : List Int) (e most : Int) : List Int := boF cs e most ((e + 1).toNat + 1) (-1) 0 1
theorem hit_lc {g : SG} {el : SE} {env : En} {P : List D → Prop} (b m : Int) (hg : ∀ c (R : D → Prop), R (.bool (decide (b < c) && decide (c ≤ m))) → g (.int c) env fun e1 => el e1 R) (hP : P (cs.map fun c => .bool (decide (b < c) && decide (c ≤ m)))) : lcGo g tYes' el env (dInts cs) P :=
  lc_all (enc := PyData.int) (f := fun c => .bool (decide (b < c) && decide (c ≤ m))) cs _ (fun c _ R hR => hg c R hR) hP
theorem back_ok (he : 0 ≤ e ∧ e ≤ 900) (hm : 1 ≤ most) (q : Q (.list (dInts (boT cs e most)))) : m_backing_off [.v (.tuple (dInts cs)), .v (.int e), .v (.int most)] Q := by
  unfold m_backing_off semD b_backing_off
  simp -implicitDefEqProofs
  unfold t_backing_off_2
  simp -implicitDefEqProofs
  unfold t_backing_off_3
  simp -implicitDefEqProofs
  refine ⟨(e + 1).toNat + 1, wh_ind (I := fun n env => ∃ (fnd : List Int) (b m p : Int) (x7 : Sl), 1 ≤ p ∧ (fnd.length : Int) ≤ m ∧ (e + 1 - m).toNat ≤ n ∧ fnd ++ boF cs e most (n + 1) b m p = boT cs e most ∧ env = [.v (.tuple (dInts cs)), .v (.int e), .v (.int most), .l (dInts fnd), .v (.int b), .v (.int m), .v (.int p), x7]) (fun n env hI R hR => ?_) (e + 1).toNat _ ⟨[], -1, 0, 1, _, by omega, by simp, by omega, rfl, rfl⟩⟩
  obtain ⟨fnd, b, m, p, x7, hp, hfl, hn, hT, rfl⟩ := hI
  simp -implicitDefEqProofs
  by_cases c : m ≤ e
  · rw [if_pos c]
    obtain ⟨n', rfl⟩ : ∃ n', n = n' + 1 := ⟨n - 1, by omega⟩
    have hR := fun x7 p' (h1 : 1 ≤ p') (h2 : fnd ++ [m] ++ boF cs e most (n' + 1) m (m + p') p' = boT cs e most) => hR [.v (.tuple (dInts cs)), .v (.int e), .v (.int most), .l (dInts (fnd ++ [m])), .v (.int m), .v (.int (m + p')), .v (.int p'), x7] n' rfl ⟨fnd ++ [m], m, m + p', p', x7, h1, by rw [List.length_append]; simp; omega, by omega, h2, rfl⟩
    have hT2 : fnd ++ [m] ++ boF cs e most (n' + 1) m (m + stP cs most b m p) (stP cs most b m p) = boT cs e most := by
      rw [← hT, List.append_assoc]
      congr 1
      show m :: boF cs e most (n' + 1) m (m + stP cs most b m p) (stP cs most b m p) = boF cs e most (n' + 1 + 1) b m p
      conv => rhs; unfold boF
      rw [if_pos c]
    have hs := hR x7 (stP cs most b m p) (stP_1 hm hp) hT2
    have ea : dInts (fnd ++ [m]) = dInts fnd ++ [.int m] := by unfold dInts; rw [List.map_append]; rfl
    rw [ea] at hs
    have hm2 : mulD (.int 2) (.int p) = some (.int (2 * p)) := if_pos (.inl (by unfold small; simp))
    unfold l_backing_off_1
    simp -implicitDefEqProofs
    refine ⟨by omega, ?_⟩
    unfold v_backing_off_1
    simp -implicitDefEqProofs
    refine hit_lc b m (fun c R hR => ?_) ?_
    · simp -implicitDefEqProofs
      by_cases c1 : b < c
      · rw [if_pos c1]
        rw [decide_eq_true c1, Bool.true_and] at hR
        exact hR
      · rw [if_neg c1]
        rw [decide_eq_false c1, Bool.false_and] at hR
        exact hR
    · rw [any_map]
      have eh : (cs.any fun c => decide (b < c) && decide (c ≤ m)) = hitB cs b m := rfl
      rw [eh]
      unfold stP at hs
      cases ec : hitB cs b m
      · rw [ec] at hs
        simp -implicitDefEqProofs [hm2]
        exact hs
      · rw [ec] at hs
        simp -implicitDefEqProofs
        exact hs
  · rw [if_neg c]
    have hT : fnd = boT cs e most := by
      rw [← hT]
      unfold boF
      rw [if_neg c, List.append_nil]
    unfold t_backing_off_4
    simp -implicitDefEqProofs
    rw [hT]
    exact q
theorem pl_int2 {xs : List Int} (h : xs.length ≤ 16777216) {n : Nat} : pl (n + 2) (.list (dInts xs)) = true ∧ pl (n + 2) (.tuple (dInts xs)) = true := by
  have h2 : ∀ x ∈ dInts xs, pl (n + 1) x = true := fun x hx => by
    obtain ⟨i, _, rfl⟩ := List.mem_map.mp hx
    rfl
  unfold pl
  rw [Bool.and_eq_true, decide_eq_true_eq, dInts_len, List.all_eq_true]
  exact ⟨⟨h, h2⟩, ⟨h, h2⟩⟩
theorem boF_len : ∀ (n : Nat) (b m p : Int), (boF cs e most n b m p).length ≤ n
  | 0, _, _, _ => Nat.le_refl _
  | n + 1, b, m, p => by
    unfold boF
    split
    · rw [List.length_cons]
      have := boF_len n m (m + stP cs most b m p) (stP cs most b m p)
      omega
    · simp
variable {x0 x1 x2 x3 x4 x5 x6 x7 x8 x9 x10 x11 x12 x13 x14 x15 x16 x17 x18 x19 x20 x21 x22 x23 x24 x25 x26 : Sl}
theorem law_16 (he : 0 ≤ e ∧ e ≤ 900) (hm : 1 ≤ most) : t_law_16 kL [x0, x1, .v (.tuple (dInts cs)), x3, x4, x5, .v (.int e), x7, x8, x9, x10, x11, x12, x13, .v (.int most), x15, x16, x17, x18, x19, x20, x21, x22, x23, x24, x25, x26] := by
  have hbl : (boT cs e most).length ≤ 1000 := Nat.le_trans (boF_len _ _ _ _) (by omega)
  unfold t_law_16
  simp -implicitDefEqProofs
  unfold t_law_17
  simp -implicitDefEqProofs
  refine ⟨(e + 1).toNat + 1, wh_ind (I := fun n env => ∃ (fnd : List Int) (b m p : Int) (x10 : Sl), 1 ≤ p ∧ (fnd.length : Int) ≤ m ∧ (e + 1 - m).toNat ≤ n ∧ fnd ++ boF cs e most (n + 1) b m p = boT cs e most ∧ env = [x0, x1, .v (.tuple (dInts cs)), x3, x4, x5, .v (.int e), x7, x8, x9, x10, x11, x12, x13, .v (.int most), x15, x16, x17, x18, x19, x20, x21, x22, .l (dInts fnd), .v (.int m), .v (.int p), .v (.int b)]) (fun n env hI R hR => ?_) (e + 1).toNat _ ⟨[], -1, 0, 1, _, by omega, by simp, by omega, rfl, rfl⟩⟩
  obtain ⟨fnd, b, m, p, x10, hp, hfl, hn, hT, rfl⟩ := hI
  simp -implicitDefEqProofs
  by_cases c : m ≤ e
  · rw [if_pos c]
    obtain ⟨n', rfl⟩ : ∃ n', n = n' + 1 := ⟨n - 1, by omega⟩
    have hR := fun x10 p' (h1 : 1 ≤ p') (h2 : fnd ++ [m] ++ boF cs e most (n' + 1) m (m + p') p' = boT cs e most) => hR [x0, x1, .v (.tuple (dInts cs)), x3, x4, x5, .v (.int e), x7, x8, x9, x10, x11, x12, x13, .v (.int most), x15, x16, x17, x18, x19, x20, x21, x22, .l (dInts (fnd ++ [m])), .v (.int (m + p')), .v (.int p'), .v (.int m)] n' rfl ⟨fnd ++ [m], m, m + p', p', x10, h1, by rw [List.length_append]; simp; omega, by omega, h2, rfl⟩
    have hT2 : fnd ++ [m] ++ boF cs e most (n' + 1) m (m + stP cs most b m p) (stP cs most b m p) = boT cs e most := by
      rw [← hT, List.append_assoc]
      congr 1
      show m :: boF cs e most (n' + 1) m (m + stP cs most b m p) (stP cs most b m p) = boF cs e most (n' + 1 + 1) b m p
      conv => rhs; unfold boF
      rw [if_pos c]
    have hs := fun x10 => hR x10 (stP cs most b m p) (stP_1 hm hp) hT2
    have ea : dInts (fnd ++ [m]) = dInts fnd ++ [.int m] := by unfold dInts; rw [List.map_append]; rfl
    rw [ea] at hs
    unfold l_law_5
    simp -implicitDefEqProofs
    refine ⟨by omega, ?_⟩
    unfold v_law_3
    simp -implicitDefEqProofs
    have ed : dInts cs = cs.map PyData.int := rfl
    rw [ed]
    refine lc_map (enc := PyData.int) (p := fun c => decide (b < c) && decide (c ≤ m)) (f := PyData.int) cs _ (fun c hc R S h1 h2 => ?_) ?_
    · simp -implicitDefEqProofs
      by_cases c1 : b < c
      · rw [if_pos c1]
        rw [decide_eq_true c1, Bool.true_and] at h1 h2
        by_cases c2 : c ≤ m
        · rw [if_pos c2]; exact h1 (decide_eq_true c2)
        · rw [if_neg c2]; exact h2 (decide_eq_false c2)
      · rw [if_neg c1]
        rw [decide_eq_false c1, Bool.false_and] at h2
        exact h2 rfl
    · have hh : hitB cs b m = !(cs.filter fun c => decide (b < c) && decide (c ≤ m)).isEmpty := by
        unfold hitB
        cases e1 : cs.any fun c => decide (b < c) && decide (c ≤ m)
        · have : cs.filter (fun c => decide (b < c) && decide (c ≤ m)) = [] := List.filter_eq_nil_iff.mpr fun x hx h => by
            have := List.any_eq_false.mp e1 x hx
            exact this h
          rw [this]; rfl
        · obtain ⟨x, hx, h⟩ := List.any_eq_true.mp e1
          have : x ∈ cs.filter (fun c => decide (b < c) && decide (c ≤ m)) := List.mem_filter.mpr ⟨hx, h⟩
          cases e2 : cs.filter (fun c => decide (b < c) && decide (c ≤ m)) with
          | nil => rw [e2] at this; cases this
          | cons _ _ => rfl
      unfold stP at hs
      rw [hh] at hs
      generalize cs.filter (fun c => decide (b < c) && decide (c ≤ m)) = L at *
      cases L with
      | nil =>
        have e2 : 2 * p = p + p := by omega
        simp only [List.isEmpty_nil, Bool.not_true, Bool.false_eq_true, if_false, e2] at hs
        simp -implicitDefEqProofs
        exact hs _
      | cons y L =>
        simp only [List.isEmpty_cons, Bool.not_false, if_true] at hs
        simp -implicitDefEqProofs
        exact hs _
  · rw [if_neg c]
    have hT : fnd = boT cs e most := by
      rw [← hT]
      unfold boF
      rw [if_neg c, List.append_nil]
    unfold t_law_18
    simp -implicitDefEqProofs
    refine up_of (back_ok he hm rfl) ?_
    rw [hT]
    refine up_of ⟨_, rfl, (pl_int2 (n := 6) (by omega)).1, rfl⟩ ?_
    simp -implicitDefEqProofs [kL]
end

end Mi

namespace Mi
open PySem PySem.Spec L2
/-! ### k31: the longest idle row -/
def bfI (ms : List Int) (j : Nat) : Int := if j = 0 then -1 else ms.getD (j - 1) 0
def idB (cs ms : List Int) (j : Nat) : Bool := !hitB cs (bfI ms j) (ms.getD j 0)
def idD (cs ms : List Int) : List D := (List.range ms.length).map fun j => .bool (idB cs ms j)
def Run (f : Nat → Bool) (j k : Nat) : Prop := j ≤ k ∧ ∀ x, j ≤ x → x ≤ k → f x = true
structure LI (f : Nat → Bool) (i : Nat) (best : Option (Nat × Nat)) (bg : Option Nat) : Prop where
  bn : bg = none → i = 0 ∨ f (i - 1) = false
  bs : ∀ b, bg = some b → b < i ∧ Run f b (i - 1) ∧ (b = 0 ∨ f (b - 1) = false)
  no : best = none → ∀ x, x < i → f x = false
  so : ∀ j k, best = some (j, k) → k < i ∧ Run f j k ∧ ∀ j' k', k' < i → Run f j' k' → k' - j' < k - j ∨ (k' - j' = k - j ∧ j ≤ j')
theorem LI.zero (f : Nat → Bool) : LI f 0 none none := ⟨fun _ => .inl rfl, (fun b h => by cases h), fun _ x h => by omega, (fun j k h => by cases h)⟩
theorem LI.off {f : Nat → Bool} {i : Nat} {best : Option (Nat × Nat)} {bg : Option Nat} (h : LI f i best bg) (hi : f i = false) : LI f (i + 1) best none := by
  refine ⟨fun _ => .inr hi, (fun b h => by cases h), fun hb x hx => ?_, fun j k hb => ?_⟩
  · by_cases c : x = i
    · rw [c]; exact hi
    · exact h.no hb x (by omega)
  · obtain ⟨h1, h2, h3⟩ := h.so j k hb
    refine ⟨by omega, h2, fun j' k' hk hr => ?_⟩
    by_cases c : k' = i
    · have := hr.2 k' hr.1 (Nat.le_refl _)
      rw [c, hi] at this
      cases this
    · exact h3 j' k' (by omega) hr
def upB (i : Nat) (best : Option (Nat × Nat)) (b : Nat) : Option (Nat × Nat) := match best with
  | none => some (b, i)
  | some x => if x.2 - x.1 < i - b then some (b, i) else some x
theorem LI.on {f : Nat → Bool} {i : Nat} {best : Option (Nat × Nat)} {bg : Option Nat} (h : LI f i best bg) (hi : f i = true) : LI f (i + 1) (upB i best (bg.getD i)) (some (bg.getD i)) := by
  have key : bg.getD i ≤ i ∧ Run f (bg.getD i) i ∧ (bg.getD i = 0 ∨ f (bg.getD i - 1) = false) := by
    cases e : bg with
    | none =>
      refine ⟨Nat.le_refl _, ⟨Nat.le_refl _, fun x h1 h2 => ?_⟩, h.bn e⟩
      have : x = i := by
        have h1 : i ≤ x := h1
        omega
      rw [this]; exact hi
    | some b =>
      obtain ⟨h1, h2, h3⟩ := h.bs b e
      refine ⟨by show b ≤ i; omega, ⟨by show b ≤ i; omega, fun x g1 g2 => ?_⟩, h3⟩
      by_cases c : x = i
      · rw [c]; exact hi
      · exact h2.2 x g1 (by omega)
  generalize bg.getD i = b at *
  obtain ⟨k1, k2, k3⟩ := key
  have low : ∀ j', Run f j' i → b ≤ j' := fun j' hr => by
    refine Nat.le_of_not_lt fun hlt => ?_
    rcases k3 with z | z
    · omega
    · rw [hr.2 (b - 1) (by omega) (by omega)] at z; cases z
  refine ⟨(fun e => by cases e), fun b' e => ?_, fun e x hx => ?_, fun j k e => ?_⟩
  · cases e
    exact ⟨by omega, k2, k3⟩
  · cases hb : best with
    | none => rw [hb] at e; cases e
    | some x =>
      rw [hb] at e
      unfold upB at e
      simp only at e
      split at e <;> cases e
  · cases hb : best with
    | none =>
      rw [hb] at e
      cases e
      refine ⟨by omega, k2, fun j' k' hk hr => ?_⟩
      by_cases c : k' = i
      · subst c
        have := low j' hr
        have := hr.1
        omega
      · have := h.no hb k' (by omega)
        rw [hr.2 k' hr.1 (Nat.le_refl _)] at this
        cases this
    | some x =>
      obtain ⟨j0, k0⟩ := x
      obtain ⟨g1, g2, g3⟩ := h.so j0 k0 hb
      rw [hb] at e
      have e : (if k0 - j0 < i - b then some (b, i) else some (j0, k0)) = some (j, k) := e
      have g2' := g2.1
      by_cases c : k0 - j0 < i - b
      · rw [if_pos c] at e
        cases e
        refine ⟨by omega, k2, fun j' k' hk hr => ?_⟩
        by_cases c2 : k' = i
        · subst c2
          have := low j' hr
          have := hr.1
          omega
        · rcases g3 j' k' (by omega) hr with z | ⟨z, _⟩ <;> omega
      · rw [if_neg c] at e
        cases e
        refine ⟨by omega, g2, fun j' k' hk hr => ?_⟩
        by_cases c2 : k' = i
        · subst c2
          have := low j' hr
          have := hr.1
          omega
        · exact g3 j' k' (by omega) hr
section
variable {Q : D → Prop} {cs ms : List Int}
theorem idle_ok (hl : ms.length ≤ 1000) (q : Q (.list (idD cs ms))) : m_idle_polls [.v (.tuple (dInts cs)), .v (.list (dInts ms))] Q := by
  unfold m_idle_polls semD b_idle_polls
  simp -implicitDefEqProofs
  unfold t_idle_polls_2
  simp -implicitDefEqProofs
  unfold t_idle_polls_3
  simp -implicitDefEqProofs
  have ed : dInts ms = ms.map PyData.int := rfl
  rw [ed]
  refine for_pre (enc := PyData.int) (xs := ms) (E := fun pre env => ∃ x4 x5, env = [.v (.tuple (dInts cs)), .v (.list (ms.map PyData.int)), .l ((List.range pre.length).map fun j => .bool (idB cs ms j)), .v (.int (bfI ms pre.length)), x4, x5]) (fun pre m post env R hx he hR => ?_) (fun e he => ?_) ⟨_, _, rfl⟩
  · obtain ⟨x4, x5, rfl⟩ := he
    have hR := fun x4 x5 => hR _ ⟨x4, x5, rfl⟩
    have hpl : pre.length ≤ 1000 := by rw [hx, List.length_append] at hl; omega
    have hm : ms.getD pre.length 0 = m := by rw [hx, List.getD_eq_getElem?_getD]; simp
    have hb : bfI ms (pre.length + 1) = m := by unfold bfI; rw [if_neg (by omega), Nat.add_sub_cancel]; exact hm
    have hi : idB cs ms pre.length = !hitB cs (bfI ms pre.length) m := by unfold idB; rw [hm]
    rw [List.length_append, show [m].length = 1 from rfl, List.range_succ, List.map_append, hb] at hR
    have e1 : [pre.length].map (fun j => PyData.bool (idB cs ms j)) = [.bool (!hitB cs (bfI ms pre.length) m)] := by rw [List.map_cons, List.map_nil, hi]
    rw [e1] at hR
    generalize bfI ms pre.length = b at *
    unfold l_idle_polls_1
    simp -implicitDefEqProofs
    refine hit_lc b m (fun c R hR => ?_) ?_
    · simp -implicitDefEqProofs
      by_cases c1 : b < c
      · rw [if_pos c1]
        rw [decide_eq_true c1, Bool.true_and] at hR
        exact hR
      · rw [if_neg c1]
        rw [decide_eq_false c1, Bool.false_and] at hR
        exact hR
    · rw [any_map]
      have eh : (cs.any fun c => decide (b < c) && decide (c ≤ m)) = hitB cs b m := rfl
      rw [eh]
      simp -implicitDefEqProofs
      exact ⟨by omega, hR _ _⟩
  · obtain ⟨x4, x5, rfl⟩ := he
    unfold t_idle_polls_4
    simp -implicitDefEqProofs
    exact q
def oN : Option Nat → D
  | none => .none
  | some b => .int (b : Int)
def oP : Option (Nat × Nat) → D
  | none => .none
  | some x => .tuple [.int (x.1 : Int), .int (x.2 : Int)]
theorem longest_loop (hl : ms.length ≤ 1000) (q : ∀ best bg, LI (idB cs ms) ms.length best bg → Q (match best with | none => .none | some x => .tuple [.int (ms.getD x.1 0), .int (ms.getD x.2 0)])) : m_longest_idle [.v (.tuple (dInts cs)), .v (.list (dInts ms))] Q := by
  unfold m_longest_idle semD b_longest_idle
  simp -implicitDefEqProofs
  unfold t_longest_idle_2
  simp -implicitDefEqProofs
  unfold t_longest_idle_3
  simp -implicitDefEqProofs
  refine up_of (idle_ok hl rfl) ?_
  simp -implicitDefEqProofs
  have een : enumL 0 (idD cs ms) = (List.range ms.length).map fun j : Nat => PyData.tuple [.int (j : Int), .bool (idB cs ms j)] := by
    have e1 : idD cs ms = ((List.range' 0 ms.length).map (idB cs ms)).map PyData.bool := by unfold idD; rw [List.map_map, List.range_eq_range']; rfl
    rw [e1, enumL_map]
    have := enumI_range (idB cs ms) ms.length 0
    have e2 : enumI 0 ((List.range' 0 ms.length).map (idB cs ms)) = (List.range' 0 ms.length).map fun k : Nat => ((k : Int), idB cs ms k) := this
    rw [e2, List.map_map, List.range_eq_range']
    rfl
  rw [een]
  refine for_pre (enc := fun j : Nat => PyData.tuple [.int (j : Int), .bool (idB cs ms j)]) (xs := List.range ms.length) (E := fun pre env => ∃ best bg x4 x5, LI (idB cs ms) pre.length best bg ∧ env = [.v (.tuple (dInts cs)), .v (.list (dInts ms)), .v (oP best), .v (oN bg), x4, x5]) (fun pre j post env R hx he hR => ?_) (fun e he => ?_) ⟨none, none, _, _, LI.zero _, rfl⟩
  · obtain ⟨best, bg, x4, x5, hL, rfl⟩ := he
    have hj : j = pre.length := by
      have h1 : (List.range ms.length)[pre.length]? = some j := by rw [hx]; simp
      have h2 := (List.getElem?_eq_some_iff.mp h1)
      obtain ⟨h3, h4⟩ := h2
      rw [List.getElem_range] at h4
      exact h4.symm
    subst hj
    have hR := fun best bg x4 x5 h => hR _ ⟨best, bg, x4, x5, h, rfl⟩
    rw [List.length_append, show [pre.length].length = 1 from rfl] at hR
    generalize pre.length = i at *
    unfold l_longest_idle_1
    cases ei : idB cs ms i
    · simp -implicitDefEqProofs
      exact hR best none _ _ (hL.off ei)
    · have hn := hL.on ei
      cases bg with
      | none =>
        cases best with
        | none =>
          simp -implicitDefEqProofs [oN, oP]
          exact hR (some (i, i)) (some i) _ _ hn
        | some x =>
          have hx1 := (hL.so x.1 x.2 rfl).2.1.1
          have eu : upB i (some x) i = some x := by
            show (if x.2 - x.1 < i - i then some (i, i) else some x) = some x
            rw [if_neg (by omega)]
          have hn : LI (idB cs ms) (i + 1) (upB i (some x) i) (some i) := hn
          rw [eu] at hn
          simp -implicitDefEqProofs [oN, oP]
          rw [if_neg (by omega)]
          exact hR (some x) (some i) _ _ hn
      | some b =>
        have hb := (hL.bs b rfl).1
        cases best with
        | none =>
          simp -implicitDefEqProofs [oN, oP]
          exact hR (some (b, i)) (some b) _ _ hn
        | some x =>
          have hx1 := (hL.so x.1 x.2 rfl).2.1.1
          have hn : LI (idB cs ms) (i + 1) (if x.2 - x.1 < i - b then some (b, i) else some x) (some b) := hn
          simp -implicitDefEqProofs [oN, oP]
          by_cases c : x.2 - x.1 < i - b
          · rw [if_pos c] at hn
            rw [if_pos (by omega)]
            exact hR (some (b, i)) (some b) _ _ hn
          · rw [if_neg c] at hn
            rw [if_neg (by omega)]
            exact hR (some x) (some b) _ _ hn
  · obtain ⟨best, bg, x4, x5, hL, rfl⟩ := he
    rw [List.length_range] at hL
    have q := q best bg hL
    unfold t_longest_idle_4
    cases best with
    | none =>
      simp -implicitDefEqProofs [oP]
      exact q
    | some x =>
      obtain ⟨g1, g2, _⟩ := hL.so x.1 x.2 rfl
      have g3 := g2.1
      have a0 : atI [PyData.int (x.1 : Int), PyData.int (x.2 : Int)] 0 = some (.int (x.1 : Int)) := at_some (j := 0) rfl rfl
      have a1 : atI [PyData.int (x.1 : Int), PyData.int (x.2 : Int)] 1 = some (.int (x.2 : Int)) := at_some (j := 1) rfl rfl
      have hat : ∀ j : Nat, j < ms.length → atI (dInts ms) (j : Int) = some (.int (ms.getD j 0)) := fun j hj => at_some (j := j) rfl (by unfold dInts; rw [List.getElem?_map, List.getD_eq_getElem?_getD, List.getElem?_eq_getElem hj]; rfl)
      simp -implicitDefEqProofs [oP, a0, a1, hat x.1 (by omega), hat x.2 g1]
      exact q
end

end Mi

namespace Mi
open PySem PySem.Spec L2
/-! ### k31: the idle rows of the law -/
theorem cut_rng {α : Type} {g : Nat → α} {n j k : Nat} (hj : j ≤ k) (hk : k < n) : cut ((List.range n).map g) (some (j : Int)) (some ((k : Int) + 1)) = (List.range' j (k + 1 - j)).map g := by
  have e1 : HT.sIx ((List.range n).map g).length 0 (some (j : Int)) = min j ((List.range n).map g).length := HT.sIx_nat _ 0 j
  have e2 : HT.sIx ((List.range n).map g).length ((List.range n).map g).length (some ((k : Int) + 1)) = min (k + 1) ((List.range n).map g).length := HT.sIx_nat _ _ (k + 1)
  unfold cut
  rw [e1, e2, List.length_map, List.length_range, show min j n = j by omega, show min (k + 1) n = k + 1 by omega, ← List.map_drop, ← List.map_take]
  congr 1
  refine List.ext_getElem (by simp; omega) fun i h1 h2 => ?_
  rw [List.getElem_take, List.getElem_drop, List.getElem_range, List.getElem_range']
  omega
def rowB (f : Nat → Bool) (j k : Nat) : Bool := (List.range' j (k + 1 - j)).all f
theorem rowB_run {f : Nat → Bool} {j k : Nat} (h : j ≤ k) : rowB f j k = true ↔ Run f j k := by
  unfold rowB Run
  rw [List.all_eq_true]
  constructor
  · intro g
    exact ⟨h, fun x h1 h2 => g x (by rw [List.mem_range'_1]; omega)⟩
  · rintro ⟨_, g⟩ x hx
    rw [List.mem_range'_1] at hx
    exact g x (by omega) (by omega)
abbrev I3 := Int × Int × Int
def e3 (p : I3) : D := .tuple [.int p.1, .int p.2.1, .int p.2.2]
def RWj (f : Nat → Bool) (n j : Nat) : List I3 := ((List.range' j (n - j)).filter (rowB f j)).map fun k : Nat => ((j : Int) - (k : Int), (j : Int), (k : Int))
def RW (f : Nat → Bool) (n i : Nat) : List I3 := (List.range i).flatMap (RWj f n)
theorem RW_succ (f : Nat → Bool) (n i : Nat) : RW f n (i + 1) = RW f n i ++ RWj f n i := by unfold RW; rw [List.range_succ, List.flatMap_append]; simp
theorem RWj_len (f : Nat → Bool) (n j : Nat) : (RWj f n j).length ≤ n := by
  unfold RWj
  rw [List.length_map]
  refine Nat.le_trans (List.length_filter_le _ _) ?_
  rw [List.length_range']; omega
theorem RW_len (f : Nat → Bool) (n : Nat) : ∀ i, (RW f n i).length ≤ i * n
  | 0 => by simp [RW]
  | i + 1 => by
    rw [RW_succ, List.length_append, Nat.succ_mul]
    have := RW_len f n i
    have := RWj_len f n i
    omega
theorem RW_mem {f : Nat → Bool} {n : Nat} {t : I3} : t ∈ RW f n n ↔ ∃ j k : Nat, k < n ∧ Run f j k ∧ t = ((j : Int) - (k : Int), (j : Int), (k : Int)) := by
  unfold RW RWj
  rw [List.mem_flatMap]
  constructor
  · rintro ⟨j, hj, ht⟩
    obtain ⟨k, hk, rfl⟩ := List.mem_map.mp ht
    obtain ⟨h1, h2⟩ := List.mem_filter.mp hk
    rw [List.mem_range'_1] at h1
    exact ⟨j, k, by omega, (rowB_run (by omega)).mp h2, rfl⟩
  · rintro ⟨j, k, hk, hr, rfl⟩
    have := hr.1
    exact ⟨j, List.mem_range.mpr (show j < n by omega), List.mem_map.mpr ⟨k, List.mem_filter.mpr ⟨by rw [List.mem_range'_1]; omega, (rowB_run hr.1).mpr hr⟩, rfl⟩⟩
abbrev lt3 : I3 → I3 → Bool := ltP ltI (ltP ltI ltI)
theorem lo3 : Lo e3 lt3 := lo_trip lo_int lo_int lo_int
theorem RW_best {f : Nat → Bool} {n : Nat} {best : Option (Nat × Nat)} {bg : Option Nat} (h : LI f n best bg) : (best = none → RW f n n = []) ∧ ∀ j k, best = some (j, k) → (k < n ∧ j ≤ k) ∧ ((j : Int) - (k : Int), (j : Int), (k : Int)) ∈ RW f n n ∧ ∀ t ∈ RW f n n, lt3 t ((j : Int) - (k : Int), (j : Int), (k : Int)) = false := by
  constructor
  · intro hb
    cases e : RW f n n with
    | nil => rfl
    | cons t l =>
      obtain ⟨j, k, h1, h2, _⟩ := RW_mem.mp (by rw [e]; simp : t ∈ RW f n n)
      have := h.no hb k h1
      rw [h2.2 k h2.1 (Nat.le_refl _)] at this
      cases this
  · intro j k hb
    obtain ⟨h1, h2, h3⟩ := h.so j k hb
    refine ⟨⟨h1, h2.1⟩, RW_mem.mpr ⟨j, k, h1, h2, rfl⟩, fun t ht => ?_⟩
    obtain ⟨j', k', g1, g2, rfl⟩ := RW_mem.mp ht
    have g3 := g2.1
    have g4 := h2.1
    unfold lt3 ltP ltI
    rcases h3 j' k' g1 g2 with z | ⟨z1, z2⟩
    · rw [if_neg (by show ¬ ((j' : Int) - k' = (j : Int) - k); omega)]
      exact decide_eq_false (by show ¬ ((j' : Int) - k' < (j : Int) - k); omega)
    · rw [if_pos (by show ((j' : Int) - k' = (j : Int) - k); omega)]
      by_cases c : j' = j
      · rw [if_pos (by show (j' : Int) = j; omega)]
        exact decide_eq_false (by show ¬ ((k' : Int) < k); omega)
      · rw [if_neg (by show ¬ (j' : Int) = j; omega)]
        exact decide_eq_false (by show ¬ ((j' : Int) < j); omega)
section
variable {Q : D → Prop} {e most : Int} {cs ms : List Int}
variable {x0 x1 x2 x3 x4 x5 x6 x7 x8 x9 x10 x11 x12 x13 x14 x15 x16 x17 x18 x19 x20 x21 x22 x23 x24 x25 x26 : Sl}
theorem law_15 (he : 0 ≤ e ∧ e ≤ 900) (hm : 1 ≤ most) (hl : ms.length ≤ 40) : t_law_15 kL [x0, x1, .v (.tuple (dInts cs)), x3, x4, x5, .v (.int e), .v (.list (dInts ms)), x8, x9, x10, x11, x12, x13, .v (.int most), x15, x16, x17, x18, x19, .v (.list ((RW (idB cs ms) ms.length ms.length).map e3)), x21, x22, x23, x24, x25, x26] := by
  have h16 := law_16 (x0 := x0) (x1 := x1) (x3 := x3) (x4 := x4) (x5 := x5) (x7 := .v (.list (dInts ms))) (x8 := x8) (x9 := x9) (x10 := x10) (x11 := x11) (x12 := x12) (x13 := x13) (x15 := x15) (x16 := x16) (x17 := x17) (x18 := x18) (x19 := x19) (x20 := .v (.list ((RW (idB cs ms) ms.length ms.length).map e3))) (x21 := x21) (x22 := x22) (x23 := x23) (x24 := x24) (x25 := x25) (x26 := x26) (cs := cs) he hm
  unfold t_law_15
  simp -implicitDefEqProofs
  refine up_dem (longest_loop (by omega) fun best bg hL => ?_)
  obtain ⟨r1, r2⟩ := RW_best hL
  generalize RW (idB cs ms) ms.length ms.length = R at *
  cases best with
  | none =>
    rw [r1 rfl] at h16 ⊢
    simp -implicitDefEqProofs
    refine up_of ⟨_, rfl, rfl, rfl⟩ ?_
    simp -implicitDefEqProofs
    exact h16
  | some x =>
    obtain ⟨⟨g1, g2⟩, g3, g4⟩ := r2 x.1 x.2 rfl
    have hne : R ≠ [] := fun z => by rw [z] at g3; cases g3
    have hb := lo3.bestOk (xs := R) (n := 2) hne (fun r _ => by unfold e3; simp [flatD]) (fun _ _ e => by cases e)
    have hb2 := lo3.best g3 g4
    have hat : ∀ j : Nat, j < ms.length → atI (dInts ms) (j : Int) = some (.int (ms[j]?.getD 0)) := fun j hj => at_some (j := j) rfl (by unfold dInts; rw [List.getElem?_map, List.getElem?_eq_getElem hj]; rfl)
    have a1 : atI [PyData.int ((x.1 : Int) - (x.2 : Int)), PyData.int (x.1 : Int), PyData.int (x.2 : Int)] 1 = some (.int (x.1 : Int)) := at_some (j := 1) rfl rfl
    have a2 : atI [PyData.int ((x.1 : Int) - (x.2 : Int)), PyData.int (x.1 : Int), PyData.int (x.2 : Int)] 2 = some (.int (x.2 : Int)) := at_some (j := 2) rfl rfl
    simp -implicitDefEqProofs
    rw [if_neg hne, hb2]
    refine ⟨hb, ?_⟩
    simp -implicitDefEqProofs [e3, a1, hat x.1 (by omega)]
    refine ⟨hb, ?_⟩
    simp -implicitDefEqProofs [a2, hat x.2 g1]
    refine up_of ⟨_, rfl, rfl, rfl⟩ ?_
    simp -implicitDefEqProofs
    exact h16
end

end Mi

namespace Mi
open PySem PySem.Spec L2
/-! ### k31: the law, polls -/
section
variable {Q : D → Prop} {e most price miss f p : Int} {cs ms : List Int}
variable {x0 x1 x2 x3 x4 x5 x6 x7 x8 x9 x10 x11 x12 x13 x14 x15 x16 x17 x18 x19 x20 x21 x22 x23 x24 x25 x26 : Sl}
theorem rng_nat (j n : Nat) : dInts (rng (j : Int) (n : Int)) = (List.range' j (n - j)).map fun k : Nat => PyData.int (k : Int) := by
  unfold dInts rng
  rw [List.map_map, show ((n : Int) - (j : Int)).toNat = n - j by omega]
  refine List.ext_getElem (by simp) fun i h1 h2 => ?_
  rw [List.getElem_map, List.getElem_map, List.getElem_range, List.getElem_range']
  show PyData.int ((j : Int) + (i : Int)) = _
  congr 1
  omega
theorem law_12 (he : 0 ≤ e ∧ e ≤ 900) (hm : 1 ≤ most) (hl : ms.length ≤ 40) : t_law_12 kL [x0, x1, .v (.tuple (dInts cs)), x3, x4, x5, .v (.int e), .v (.list (dInts ms)), x8, x9, x10, x11, x12, x13, .v (.int most), x15, x16, x17, x18, x19, x20, x21, x22, x23, x24, x25, x26] := by
  unfold t_law_12
  simp -implicitDefEqProofs
  unfold t_law_13
  simp -implicitDefEqProofs
  refine ⟨by omega, ?_⟩
  have hat : ∀ j : Nat, j < ms.length → atI (dInts ms) (j : Int) = some (.int (ms.getD j 0)) := fun j hj => at_some (j := j) rfl (by unfold dInts; rw [List.getElem?_map, List.getD_eq_getElem?_getD, List.getElem?_eq_getElem hj]; rfl)
  refine for_idx (E := fun i env => ∃ x3 x10 x21 x22, env = [x0, x1, .v (.tuple (dInts cs)), x3, x4, x5, .v (.int e), .v (.list (dInts ms)), x8, x9, x10, x11, x12, x13, .v (.int most), x15, x16, x17, x18, .l ((List.range i).map fun j => .bool (idB cs ms j)), .v (.list []), x21, x22, x23, x24, x25, x26]) (fun i d env R hd he hR => ?_) (fun e he => ?_) ⟨_, _, _, _, rfl⟩
  · obtain ⟨x3, x10, x21, x22, rfl⟩ := he
    obtain ⟨hd', hi⟩ := rng_get hd
    rw [Int.zero_add] at hd' hi
    subst hd'
    have hi : i < ms.length := by omega
    have hR := fun x3 x10 x21 x22 => hR _ ⟨x3, x10, x21, x22, rfl⟩
    rw [List.range_succ, List.map_append] at hR
    obtain ⟨v, hv⟩ : ∃ v, ms.getD i 0 = v := ⟨_, rfl⟩
    obtain ⟨b, hb⟩ : ∃ b, bfI ms i = b := ⟨_, rfl⟩
    have e1 : [i].map (fun j => PyData.bool (idB cs ms j)) = [.bool (!hitB cs b v)] := by rw [← hb, ← hv]; rfl
    rw [e1] at hR
    have hat1 := hat i hi
    rw [hv] at hat1
    have hat2 : i ≠ 0 → atI (dInts ms) ((i : Int) - 1) = some (.int b) := fun c => by
      have := hat (i - 1) (by omega)
      rw [show ((i - 1 : Nat) : Int) = (i : Int) - 1 by omega] at this
      rw [this, ← hb]
      unfold bfI
      rw [if_neg c]
    have hb0 : i = 0 → b = -1 := fun c => by rw [← hb]; unfold bfI; rw [if_pos c]
    have hil : ((List.range i).map fun j => PyData.bool (idB cs ms j)).length = i := by rw [List.length_map, List.length_range]
    generalize (List.range i).map (fun j => PyData.bool (idB cs ms j)) = L at *
    have fin : ∀ x10', lcGo (gN 10) tYes' (sChain ltD leD (sVar 22) (sVar 10) (sOp ixD (sVar 7) (sVar 21))) [x0, x1, .v (.tuple (dInts cs)), x3, x4, x5, .v (.int e), .v (.list (dInts ms)), x8, x9, x10', x11, x12, x13, .v (.int most), x15, x16, x17, x18, .l L, .v (.list []), .v (.int (i : Int)), .v (.int b), x23, x24, x25, x26] (dInts cs) fun xs => ob (anyD (PyData.list xs)) fun x => obB (tru x) fun k => L.length < 16777216 ∧ R [x0, x1, .v (.tuple (dInts cs)), x3, x4, x5, .v (.int e), .v (.list (dInts ms)), x8, x9, x10, x11, x12, x13, .v (.int most), x15, x16, x17, x18, .l (L ++ [.bool !k]), .v (.list []), .v (.int (i : Int)), .v (.int b), x23, x24, x25, x26] := fun x10' => by
      refine hit_lc b v (fun c R hR => ?_) ?_
      · simp -implicitDefEqProofs [hat1]
        by_cases c1 : b < c
        · rw [if_pos c1]
          rw [decide_eq_true c1, Bool.true_and] at hR
          exact hR
        · rw [if_neg c1]
          rw [decide_eq_false c1, Bool.false_and] at hR
          exact hR
      · rw [any_map]
        have eh : (cs.any fun c => decide (b < c) && decide (c ≤ v)) = hitB cs b v := rfl
        rw [eh]
        simp -implicitDefEqProofs
        exact ⟨by omega, hR _ _ _ _⟩
    unfold l_law_3
    simp -implicitDefEqProofs
    by_cases c : i = 0
    · rw [if_neg (by omega)]
      rw [hb0 c] at fin
      exact fin _
    · rw [if_pos (by omega), hat2 c]
      exact fin _
  · obtain ⟨x3, x10, x21, x22, rfl⟩ := he
    rw [rng_len, show ((ms.length : Int) - 0).toNat = ms.length by omega]
    unfold t_law_14
    simp -implicitDefEqProofs
    refine ⟨by omega, ?_⟩
    refine for_idx (E := fun i env => ∃ x3 x21, env = [x0, x1, .v (.tuple (dInts cs)), x3, x4, x5, .v (.int e), .v (.list (dInts ms)), x8, x9, x10, x11, x12, x13, .v (.int most), x15, x16, x17, x18, .l ((List.range ms.length).map fun j => .bool (idB cs ms j)), .v (.list ((RW (idB cs ms) ms.length i).map e3)), x21, x22, x23, x24, x25, x26]) (fun i d env R hd he hR => ?_) (fun e he => ?_) ⟨_, _, rfl⟩
    · obtain ⟨x3, x21, rfl⟩ := he
      obtain ⟨hd', hi⟩ := rng_get hd
      rw [Int.zero_add] at hd' hi
      subst hd'
      have hi : i < ms.length := by omega
      have hR := fun x3 x21 => hR _ ⟨x3, x21, rfl⟩
      rw [RW_succ, List.map_append] at hR
      have hw1 := RW_len (idB cs ms) ms.length i
      have hw2 := RWj_len (idB cs ms) ms.length i
      have hw3 : i * ms.length ≤ 40 * 40 := Nat.mul_le_mul (by omega) hl
      unfold l_law_4
      simp -implicitDefEqProofs
      refine ⟨⟨by omega, by omega⟩, ?_⟩
      rw [rng_nat]
      refine lc_map (enc := fun k : Nat => PyData.int (k : Int)) (p := rowB (idB cs ms) i) (f := fun k : Nat => e3 ((i : Int) - (k : Int), (i : Int), (k : Int))) (List.range' i (ms.length - i)) _ (fun k hk R S h1 h2 => ?_) ?_
      · rw [List.mem_range'_1] at hk
        simp -implicitDefEqProofs
        rw [cut_rng (by omega) (by omega), all_map]
        have eb : ((List.range' i (k + 1 - i)).all fun j => idB cs ms j) = rowB (idB cs ms) i k := rfl
        rw [eb]
        cases er : rowB (idB cs ms) i k
        · exact h2 er
        · exact h1 er
      · have ej : ((List.range' i (ms.length - i)).filter (rowB (idB cs ms) i)).map (fun k : Nat => e3 ((i : Int) - (k : Int), (i : Int), (k : Int))) = (RWj (idB cs ms) ms.length i).map e3 := by unfold RWj; rw [List.map_map]; rfl
        rw [ej, add_ll (by rw [List.length_map, List.length_map]; omega)]
        simp -implicitDefEqProofs
        have := hR x3 (.v (.int (i : Int)))
        exact this
    · obtain ⟨x3, x21, rfl⟩ := he
      rw [rng_len, show ((ms.length : Int) - 0).toNat = ms.length by omega]
      exact law_15 he hm hl
end

end Mi

namespace Mi
open PySem PySem.Spec L2
/-! ### k31: the law from its first line -/
section
variable {Q : D → Prop} {e most price miss f p : Int} {cs ms : List Int}
variable {x0 x1 x2 x3 x4 x5 x6 x7 x8 x9 x10 x11 x12 x13 x14 x15 x16 x17 x18 x19 x20 x21 x22 x23 x24 x25 x26 : Sl}
theorem miL_0 (he : 0 ≤ e) (hp : 0 < p) : ∃ L, miL 0 e p = 0 :: L := by
  unfold miL rng
  rw [show (e + 1 - 0).toNat = e.toNat + 1 by omega, List.range_succ_eq_map, List.map_cons, List.filter_cons_of_pos (by simp)]
  exact ⟨_, rfl⟩
/-- the least poll behind a change -/
theorem poll_min {ms : List Int} (so : ms.Pairwise (· < ·)) (hne : ms ≠ []) (c : Int) : (c ≤ ms.getLast hne → ∃ m L, ms.filter (fun m => decide (c ≤ m)) = m :: L ∧ minL (m :: L) = m) ∧ (¬ c ≤ ms.getLast hne → ms.filter (fun m => decide (c ≤ m)) = []) := by
  constructor
  · intro h
    have hm : ms.getLast hne ∈ ms.filter (fun m => decide (c ≤ m)) := List.mem_filter.mpr ⟨List.getLast_mem hne, decide_eq_true h⟩
    have so2 := so.filter (fun m => decide (c ≤ m))
    cases e : ms.filter (fun m => decide (c ≤ m)) with
    | nil => rw [e] at hm; cases hm
    | cons m L =>
      refine ⟨m, L, rfl, ?_⟩
      rw [e] at so2
      obtain ⟨g1, g2⟩ := minL_spec (l := m :: L) (by simp)
      refine Int.le_antisymm (g2 m (by simp)) ?_
      rcases List.mem_cons.mp g1 with z | z
      · rw [z]; exact Int.le_refl _
      · have := (List.pairwise_cons.mp so2).1 _ z; omega
  · intro h
    refine List.filter_eq_nil_iff.mpr fun m hm => ?_
    have : m ≤ ms.getLast hne := by
      have hd := List.dropLast_concat_getLast hne
      rw [← hd] at hm so
      rcases List.mem_append.mp hm with z | z
      · have := (List.pairwise_append.mp so).2.2 m z (ms.getLast hne) (by simp); omega
      · rw [List.mem_singleton.mp z]; exact Int.le_refl _
    simp
    omega
structure CO (cs : List Int) (e price miss most : Int) : Prop where
  c : cs.length ≤ 100
  e : 0 ≤ e ∧ e ≤ 900
  pr : 0 ≤ price ∧ price ≤ 100
  mo : 1 ≤ most ∧ most ≤ 100
theorem law_10 (h : CO cs e price miss most) (hl : ms.length ≤ 40) : t_law_10 kL [x0, x1, .v (.tuple (dInts cs)), x3, x4, x5, .v (.int e), .v (.list (dInts ms)), x8, x9, x10, x11, .v (.int price), .v (.int miss), .v (.int most), .v .none, x16, x17, x18, x19, x20, x21, x22, x23, x24, x25, x26] := by
  obtain ⟨hc, he, hpr, hmo⟩ := h
  unfold t_law_10
  simp -implicitDefEqProofs
  refine ⟨⟨by omega, by omega⟩, ?_⟩
  have ed : dInts (rng 1 (most + 1)) = (rng 1 (most + 1)).map PyData.int := rfl
  rw [ed]
  refine for_pre (enc := PyData.int) (xs := rng 1 (most + 1)) (E := fun pre env => ∃ x8 x10 x16 x17 x18, env = [x0, x1, .v (.tuple (dInts cs)), x3, x4, x5, .v (.int e), .v (.list (dInts ms)), x8, x9, x10, x11, .v (.int price), .v (.int miss), .v (.int most), .v (oW (beO (coF cs e price miss) pre)), x16, x17, x18, x19, x20, x21, x22, x23, x24, x25, x26]) (fun pre p post env R hx he' hR => ?_) (fun en hen => ?_) ⟨_, _, _, _, _, rfl⟩
  · obtain ⟨x8, x10, x16, x17, x18, rfl⟩ := he'
    have hp : p ∈ rng 1 (most + 1) := by rw [hx]; simp
    obtain ⟨hp1, hp2⟩ := mem_rng hp
    have hR := fun x8 x10 x16 x17 x18 => hR _ ⟨x8, x10, x16, x17, x18, rfl⟩
    rw [beO_snoc] at hR
    have hml := miL_len 0 e p (by omega)
    have hcost := cost_ok (Q := fun d => d = .int (coF cs e price miss p)) (cs := cs) (price := price) (miss := miss) (e := e) (p := p) ⟨by omega, by omega⟩ he hc hpr rfl
    have hm : mulD (.int price) (.int ((miL 0 e p).length : Int)) = some (.int (price * (miL 0 e p).length)) := if_pos (.inl (by unfold small; simp; omega))
    have hso := miL_so 0 e p
    have hrc : rngC 0 (e + 1) p = miL 0 e p := rngC_eq (by omega)
    have hrl := rngC_len 0 (e + 1) p
    rw [dInts_len, hrc] at hrl
    obtain ⟨L0, hL0⟩ := miL_0 (e := e) (p := p) he.1 (by omega)
    have hne : miL 0 e p ≠ [] := by rw [hL0]; simp
    have hcf : coF cs e price miss p = price * (miL 0 e p).length + (cs.map fun c => (laO (miL 0 e p) c).getD miss).sum := rfl
    generalize beO (coF cs e price miss) pre = b at *
    generalize hF : coF cs e price miss p = w at *
    generalize miL 0 e p = T at *
    unfold l_law_2
    simp -implicitDefEqProofs
    refine ⟨by repeat' (first | omega | apply And.intro), ?_⟩
    rw [hrc]
    unfold v_law_2
    simp -implicitDefEqProofs [hm]
    have ec : dInts cs = cs.map PyData.int := rfl
    rw [ec]
    refine lc_all (enc := PyData.int) (f := fun c => .int ((laO T c).getD miss)) cs _ (fun c hcc R hR => ?_) ?_
    · have hz := poll_min hso hne c
      simp -implicitDefEqProofs
      rw [at_endI hne]
      simp -implicitDefEqProofs
      by_cases cc : c ≤ T.getLast hne
      · obtain ⟨m, L, e1, e2⟩ := hz.1 cc
        rw [if_pos cc]
        have ea : (laO T c).getD miss = m - c := by unfold laO; rw [e1]; rfl
        rw [ea] at hR
        have et : dInts T = T.map PyData.int := rfl
        rw [et]
        refine lc_map (enc := PyData.int) (p := fun m => decide (c ≤ m)) (f := PyData.int) T _ (fun m hm R S h1 h2 => ?_) ?_
        · simp -implicitDefEqProofs
          by_cases c3 : c ≤ m
          · rw [if_pos c3]; exact h1 (decide_eq_true c3)
          · rw [if_neg c3]; exact h2 (decide_eq_false c3)
        · rw [e1]
          have e3 : (m :: L).map PyData.int = dInts (m :: L) := rfl
          rw [e3, min_dI (by simp), e2]
          exact hR
      · rw [if_neg cc]
        have ea : (laO T c).getD miss = miss := by unfold laO; rw [hz.2 cc]; rfl
        rw [ea] at hR
        exact hR
    · rw [dI_map, sum_dI]
      simp -implicitDefEqProofs
      rw [← hcf]
      unfold v_law_1
      simp -implicitDefEqProofs
      cases b with
      | none =>
        have eb : beS (coF cs e price miss) none p = some (w, p) := by rw [← hF]; rfl
        rw [eb] at hR
        simp -implicitDefEqProofs [oW]
        by_cases cp : p = most
        · rw [if_pos cp]
          refine up_of hcost ?_
          refine up_of ⟨_, rfl, rfl, rfl⟩ ?_
          simp -implicitDefEqProofs
          exact hR _ _ _ _ _
        · rw [if_neg cp]
          exact hR _ _ _ _ _
      | some x =>
        have eb : beS (coF cs e price miss) (some x) p = if w ≤ x.1 then some (w, p) else some x := by rw [← hF]; rfl
        rw [eb] at hR
        have b0 : atI [PyData.int x.1, PyData.int x.2] 0 = some (.int x.1) := at_some (j := 0) rfl rfl
        simp -implicitDefEqProofs [oW, dW, b0]
        by_cases cp : p = most
        · rw [if_pos cp]
          refine up_of hcost ?_
          refine up_of ⟨_, rfl, rfl, rfl⟩ ?_
          simp -implicitDefEqProofs
          by_cases cw : w ≤ x.1
          · rw [if_pos cw] at hR ⊢; exact hR _ _ _ _ _
          · rw [if_neg cw] at hR ⊢; exact hR _ _ _ _ _
        · rw [if_neg cp]
          by_cases cw : w ≤ x.1
          · rw [if_pos cw] at hR ⊢; exact hR _ _ _ _ _
          · rw [if_neg cw] at hR ⊢; exact hR _ _ _ _ _
  · obtain ⟨x8, x10, x16, x17, x18, rfl⟩ := hen
    unfold t_law_11
    simp -implicitDefEqProofs
    refine up_of (best_ok (cs := cs) (price := price) (miss := miss) he ⟨by omega, hmo.2⟩ hc hpr rfl) ?_
    refine up_of ⟨_, rfl, ?_, rfl⟩ ?_
    · cases beO (coF cs e price miss) (rng 1 (most + 1)) <;> rfl
    · simp -implicitDefEqProofs
      exact law_12 he hmo.1 hl
theorem mod_x {a p : Int} (hp : 0 < p ∧ p ≤ 1000) : modD (.int a) (.int p) = some (.int (a % p)) := if_pos hp.1
theorem law_6 (hc : cs.length ≤ 100) (he : 0 ≤ e ∧ e ≤ 900) (hl : ms.length ≤ 40) : t_law_6 kL [x0, .dr, .v (.tuple (dInts cs)), x3, x4, x5, .v (.int e), .v (.list (dInts ms)), x8, x9, x10, x11, x12, x13, x14, x15, x16, x17, x18, x19, x20, x21, x22, x23, x24, x25, x26] := by
  unfold t_law_6
  simp -implicitDefEqProofs
  unfold t_law_7
  simp -implicitDefEqProofs
  have ed : dInts cs = cs.map PyData.int := rfl
  rw [ed]
  refine for_pre (enc := PyData.int) (xs := cs) (E := fun pre env => ∃ x8 x10 x11, env = [x0, .dr, .v (.tuple (cs.map PyData.int)), x3, x4, x5, .v (.int e), .v (.list (dInts ms)), x8, .l (pre.map fun c => oI (laO ms c)), x10, x11, x12, x13, x14, x15, x16, x17, x18, x19, x20, x21, x22, x23, x24, x25, x26]) (fun pre c post env R hx he hR => ?_) (fun en hen => ?_) ⟨_, _, _, rfl⟩
  · obtain ⟨x8, x10, x11, rfl⟩ := he
    have hR := fun x8 x10 x11 => hR _ ⟨x8, x10, x11, rfl⟩
    have hpl : pre.length ≤ 100 := by rw [hx, List.length_append] at hc; omega
    rw [List.map_append] at hR
    have e1 : [c].map (fun c => oI (laO ms c)) = [oI (laO ms c)] := rfl
    rw [e1] at hR
    unfold laO at hR
    unfold l_law_1
    simp -implicitDefEqProofs
    have et : dInts ms = ms.map PyData.int := rfl
    rw [et]
    refine lc_map (enc := PyData.int) (p := fun m => decide (c ≤ m)) (f := fun m => .int (m - c)) ms _ (fun m hm R S h1 h2 => ?_) ?_
    · simp -implicitDefEqProofs
      by_cases cc : c ≤ m
      · rw [if_pos cc]; exact h1 (decide_eq_true cc)
      · rw [if_neg cc]; exact h2 (decide_eq_false cc)
    · generalize ms.filter (fun m => decide (c ≤ m)) = L at *
      cases L with
      | nil =>
        simp -implicitDefEqProofs
        exact ⟨by omega, hR _ _ _⟩
      | cons m L =>
        simp -implicitDefEqProofs
        exact ⟨by omega, hR _ _ _⟩
  · obtain ⟨x8, x10, x11, rfl⟩ := hen
    unfold t_law_8
    simp -implicitDefEqProofs
    refine up_of (delays_ok hc rfl) ?_
    refine up_of ⟨_, rfl, ?_, rfl⟩ ?_
    · unfold pl
      rw [Bool.and_eq_true, decide_eq_true_eq, List.length_map, List.all_eq_true]
      refine ⟨by omega, fun x hx => ?_⟩
      obtain ⟨c, _, rfl⟩ := List.mem_map.mp hx
      cases laO ms c <;> rfl
    · simp -implicitDefEqProofs
      unfold t_law_9
      simp -implicitDefEqProofs
      intro pr p0 p1 mi m0 m1 mo o0 o1
      exact law_10 ⟨hc, he, ⟨p0, by omega⟩, by omega, by omega⟩ hl
theorem law_3 (hc : cs.length ≤ 100) : t_law_3 kL [x0, .dr, .v (.tuple (dInts cs)), x3, x4, x5, x6, x7, x8, x9, x10, x11, x12, x13, x14, x15, x16, x17, x18, x19, x20, x21, x22, x23, x24, x25, x26] := by
  unfold t_law_3
  simp -implicitDefEqProofs
  intro f f0 f1 p p0 p1 e e0 e1
  unfold t_law_4
  simp -implicitDefEqProofs
  refine ⟨by repeat' (first | omega | apply And.intro), ?_⟩
  have ed : dInts (rng f (5 + e + 1)) = (rng f (5 + e + 1)).map PyData.int := rfl
  rw [ed]
  refine lc_map (enc := PyData.int) (p := fun x => (x - f) % (1 + p) == 0) (f := PyData.int) (rng f (5 + e + 1)) _ (fun x hx R S h1 h2 => ?_) ?_
  · simp -implicitDefEqProofs [mod_x (a := x - f) (p := 1 + p) ⟨by omega, by omega⟩]
    by_cases cc : (x - f) % (1 + p) = 0
    · rw [if_pos cc]; exact h1 (by simp [cc])
    · rw [if_neg cc]; exact h2 (by simpa using cc)
  · have em : (rng f (5 + e + 1)).filter (fun x => (x - f) % (1 + p) == 0) = miL f (5 + e) (1 + p) := rfl
    rw [em]
    have hml : (miL f (5 + e) (1 + p)).length ≤ 40 := by
      unfold miL
      refine Nat.le_trans (List.length_filter_le _ _) ?_
      unfold rng
      rw [List.length_map, List.length_range]; omega
    have ex : (miL f (5 + e) (1 + p)).map PyData.int = dInts (miL f (5 + e) (1 + p)) := rfl
    rw [ex]
    unfold t_law_5
    simp -implicitDefEqProofs
    refine up_of (polls_ok ⟨by omega, by omega⟩ ⟨f0, by omega⟩ ⟨by omega, by omega⟩ rfl) ?_
    refine up_of ⟨_, rfl, (pl_int2 (n := 6) (by omega)).1, rfl⟩ ?_
    simp -implicitDefEqProofs
    exact law_6 hc ⟨by omega, by omega⟩ hml
end
theorem law_math : b_law kL (env0 27 1) := by
  have e : env0 27 1 = [.un, .dr, .un, .un, .un, .un, .un, .un, .un, .un, .un, .un, .un, .un, .un, .un, .un, .un, .un, .un, .un, .un, .un, .un, .un, .un, .un] := rfl
  rw [e]
  unfold b_law
  simp -implicitDefEqProofs
  refine up_of (power_ok rfl) ?_
  simp -implicitDefEqProofs
  unfold t_law_2
  simp -implicitDefEqProofs
  intro n n0 n1
  refine ⟨by omega, ?_⟩
  refine lc_dem (enc := PyData.int) (f := PyData.int) (P := fun r => 0 ≤ r ∧ r < 30) (rng 0 n) _ (fun k hk R hR => ?_) fun hs hl hh => ?_
  · simp -implicitDefEqProofs
    intro m m0 m1
    exact hR _ ⟨m0, m1⟩
  · have hln : (rng 0 n).length ≤ 10 := by unfold rng; rw [List.length_map, List.length_range]; omega
    have el : hs.map PyData.int = dInts hs := rfl
    rw [el]
    have hul := usort_len hs
    have hl2 : hs.length ≤ 10 := by omega
    rw [lsI_l]
    simp -implicitDefEqProofs
    exact ⟨⟨by omega, by omega⟩, law_3 (by omega)⟩

end Mi

namespace Mi
open PySem PySem.Spec L2
section
set_option maxHeartbeats 0 in
theorem all_mk {l : PySem.W.OpenLaw} {w : World} {K : PySem.W.Frag} {h : Heap} {mg : Str → Option Value} {fa f0 f1 f2 f3 f4 f5 f6 f7 f8 f9 f10 f11 f12 f13 f14 f15 f16 : Addr} (X : K.In h) (G : h.Ns mainGlobals mg) (hfa : mg "law" = some (.ref fa))
    {od0 an0 od1 an1 od2 an2 od3 an3 od4 an4 od5 an5 od6 an6 od7 an7 od8 an8 od9 an9 od10 an10 od11 an11 od12 an12 od13 an13 od14 an14 od15 an15 od16 an16 : Option Addr} {sl0 sl1 sl2 sl3 sl4 sl5 sl6 sl7 sl8 sl9 sl10 sl11 sl12 sl13 sl14 sl15 sl16 : Array (Option Value)} {oc0 kV0 dc0 pm0 cd0 ct0 oc1 kV1 dc1 pm1 cd1 ct1 oc2 kV2 dc2 pm2 cd2 ct2 oc3 kV3 dc3 pm3 cd3 ct3 oc4 kV4 dc4 pm4 cd4 ct4 oc5 kV5 dc5 pm5 cd5 ct5 oc6 kV6 dc6 pm6 cd6 ct6 oc7 kV7 dc7 pm7 cd7 ct7 oc8 kV8 dc8 pm8 cd8 ct8 oc9 kV9 dc9 pm9 cd9 ct9 oc10 kV10 dc10 pm10 cd10 ct10 oc11 kV11 dc11 pm11 cd11 ct11 oc12 kV12 dc12 pm12 cd12 ct12 oc13 kV13 dc13 pm13 cd13 ct13 oc14 kV14 dc14 pm14 cd14 ct14 oc15 kV15 dc15 pm15 cd15 ct15 oc16 kV16 dc16 pm16 cd16 ct16 : Value}
    (a0 : PySem.W.nsIn K mainGlobals "_law_draw" = some (some (.ref f0))) (l0 : K.lookup f0 = some ⟨oc0, od0, .func (PySem.W.fnOf "_law_draw" "_law_draw" (defArgs sDr) (defBody sDr) (defScope sDr) .none kV0 dc0 pm0 an0 cd0 ct0), sl0⟩) (c0 : PySem.W.codeIn K cd0 "_law_draw" = true) (k0 : PySem.W.keepIn K (.ref f0) = true)
    (a1 : PySem.W.nsIn K mainGlobals "_law_next" = some (some (.ref f1))) (l1 : K.lookup f1 = some ⟨oc1, od1, .func (PySem.W.fnOf "_law_next" "_law_next" (defArgs sNx) (defBody sNx) (defScope sNx) .none kV1 dc1 pm1 an1 cd1 ct1), sl1⟩) (c1 : PySem.W.codeIn K cd1 "_law_next" = true) (k1 : PySem.W.keepIn K (.ref f1) = true)
    (a2 : PySem.W.nsIn K mainGlobals "_law_same" = some (some (.ref f2))) (l2 : K.lookup f2 = some ⟨oc2, od2, .func (PySem.W.fnOf "_law_same" "_law_same" (defArgs s__law_same) (defBody s__law_same) (defScope s__law_same) .none kV2 dc2 pm2 an2 cd2 ct2), sl2⟩) (c2 : PySem.W.codeIn K cd2 "_law_same" = true) (k2 : PySem.W.keepIn K (.ref f2) = true)
    (a3 : PySem.W.nsIn K mainGlobals "pauses" = some (some (.ref f3))) (l3 : K.lookup f3 = some ⟨oc3, od3, .func (PySem.W.fnOf "pauses" "pauses" (defArgs s_pauses) (defBody s_pauses) (defScope s_pauses) .none kV3 dc3 pm3 an3 cd3 ct3), sl3⟩) (c3 : PySem.W.codeIn K cd3 "pauses" = true) (k3 : PySem.W.keepIn K (.ref f3) = true)
    (a4 : PySem.W.nsIn K mainGlobals "own_minutes" = some (some (.ref f4))) (l4 : K.lookup f4 = some ⟨oc4, od4, .func (PySem.W.fnOf "own_minutes" "own_minutes" (defArgs s_own_minutes) (defBody s_own_minutes) (defScope s_own_minutes) .none kV4 dc4 pm4 an4 cd4 ct4), sl4⟩) (c4 : PySem.W.codeIn K cd4 "own_minutes" = true) (k4 : PySem.W.keepIn K (.ref f4) = true)
    (a5 : PySem.W.nsIn K mainGlobals "least_cost" = some (some (.ref f5))) (l5 : K.lookup f5 = some ⟨oc5, od5, .func (PySem.W.fnOf "least_cost" "least_cost" (defArgs s_least_cost) (defBody s_least_cost) (defScope s_least_cost) .none kV5 dc5 pm5 an5 cd5 ct5), sl5⟩) (c5 : PySem.W.codeIn K cd5 "least_cost" = true) (k5 : PySem.W.keepIn K (.ref f5) = true)
    (a6 : PySem.W.nsIn K mainGlobals "thumb_cost" = some (some (.ref f6))) (l6 : K.lookup f6 = some ⟨oc6, od6, .func (PySem.W.fnOf "thumb_cost" "thumb_cost" (defArgs s_thumb_cost) (defBody s_thumb_cost) (defScope s_thumb_cost) .none kV6 dc6 pm6 an6 cd6 ct6), sl6⟩) (c6 : PySem.W.codeIn K cd6 "thumb_cost" = true) (k6 : PySem.W.keepIn K (.ref f6) = true)
    (a7 : PySem.W.nsIn K mainGlobals "limited_cost" = some (some (.ref f7))) (l7 : K.lookup f7 = some ⟨oc7, od7, .func (PySem.W.fnOf "limited_cost" "limited_cost" (defArgs s_limited_cost) (defBody s_limited_cost) (defScope s_limited_cost) .none kV7 dc7 pm7 an7 cd7 ct7), sl7⟩) (c7 : PySem.W.codeIn K cd7 "limited_cost" = true) (k7 : PySem.W.keepIn K (.ref f7) = true)
    (a8 : PySem.W.nsIn K mainGlobals "polls" = some (some (.ref f8))) (l8 : K.lookup f8 = some ⟨oc8, od8, .func (PySem.W.fnOf "polls" "polls" (defArgs s_polls) (defBody s_polls) (defScope s_polls) .none kV8 dc8 pm8 an8 cd8 ct8), sl8⟩) (c8 : PySem.W.codeIn K cd8 "polls" = true) (k8 : PySem.W.keepIn K (.ref f8) = true)
    (a9 : PySem.W.nsIn K mainGlobals "delays" = some (some (.ref f9))) (l9 : K.lookup f9 = some ⟨oc9, od9, .func (PySem.W.fnOf "delays" "delays" (defArgs s_delays) (defBody s_delays) (defScope s_delays) .none kV9 dc9 pm9 an9 cd9 ct9), sl9⟩) (c9 : PySem.W.codeIn K cd9 "delays" = true) (k9 : PySem.W.keepIn K (.ref f9) = true)
    (a10 : PySem.W.nsIn K mainGlobals "cost_of" = some (some (.ref f10))) (l10 : K.lookup f10 = some ⟨oc10, od10, .func (PySem.W.fnOf "cost_of" "cost_of" (defArgs s_cost_of) (defBody s_cost_of) (defScope s_cost_of) .none kV10 dc10 pm10 an10 cd10 ct10), sl10⟩) (c10 : PySem.W.codeIn K cd10 "cost_of" = true) (k10 : PySem.W.keepIn K (.ref f10) = true)
    (a11 : PySem.W.nsIn K mainGlobals "best_period" = some (some (.ref f11))) (l11 : K.lookup f11 = some ⟨oc11, od11, .func (PySem.W.fnOf "best_period" "best_period" (defArgs s_best_period) (defBody s_best_period) (defScope s_best_period) .none kV11 dc11 pm11 an11 cd11 ct11), sl11⟩) (c11 : PySem.W.codeIn K cd11 "best_period" = true) (k11 : PySem.W.keepIn K (.ref f11) = true)
    (a12 : PySem.W.nsIn K mainGlobals "idle_polls" = some (some (.ref f12))) (l12 : K.lookup f12 = some ⟨oc12, od12, .func (PySem.W.fnOf "idle_polls" "idle_polls" (defArgs s_idle_polls) (defBody s_idle_polls) (defScope s_idle_polls) .none kV12 dc12 pm12 an12 cd12 ct12), sl12⟩) (c12 : PySem.W.codeIn K cd12 "idle_polls" = true) (k12 : PySem.W.keepIn K (.ref f12) = true)
    (a13 : PySem.W.nsIn K mainGlobals "longest_idle" = some (some (.ref f13))) (l13 : K.lookup f13 = some ⟨oc13, od13, .func (PySem.W.fnOf "longest_idle" "longest_idle" (defArgs s_longest_idle) (defBody s_longest_idle) (defScope s_longest_idle) .none kV13 dc13 pm13 an13 cd13 ct13), sl13⟩) (c13 : PySem.W.codeIn K cd13 "longest_idle" = true) (k13 : PySem.W.keepIn K (.ref f13) = true)
    (a14 : PySem.W.nsIn K mainGlobals "backing_off" = some (some (.ref f14))) (l14 : K.lookup f14 = some ⟨oc14, od14, .func (PySem.W.fnOf "backing_off" "backing_off" (defArgs s_backing_off) (defBody s_backing_off) (defScope s_backing_off) .none kV14 dc14 pm14 an14 cd14 ct14), sl14⟩) (c14 : PySem.W.codeIn K cd14 "backing_off" = true) (k14 : PySem.W.keepIn K (.ref f14) = true)
    (a15 : PySem.W.nsIn K mainGlobals "_law_power" = some (some (.ref f15))) (l15 : K.lookup f15 = some ⟨oc15, od15, .func (PySem.W.fnOf "_law_power" "_law_power" (defArgs s__law_power) (defBody s__law_power) (defScope s__law_power) .none kV15 dc15 pm15 an15 cd15 ct15), sl15⟩) (c15 : PySem.W.codeIn K cd15 "_law_power" = true) (k15 : PySem.W.keepIn K (.ref f15) = true)
    (a16 : PySem.W.nsIn K mainGlobals "law" = some (some (.ref f16))) (l16 : K.lookup f16 = some ⟨oc16, od16, .func (PySem.W.fnOf "law" "law" (defArgs s_law) (defBody s_law) (defScope s_law) .none kV16 dc16 pm16 an16 cd16 ct16), sl16⟩) (c16 : PySem.W.codeIn K cd16 "law" = true) (k16 : PySem.W.keepIn K (.ref f16) = true)
    (z_abs : PySem.W.nsIn K mainGlobals "abs" = some none)
    (z_all : PySem.W.nsIn K mainGlobals "all" = some none)
    (z_any : PySem.W.nsIn K mainGlobals "any" = some none)
    (z_bool : PySem.W.nsIn K mainGlobals "bool" = some none)
    (z_dict : PySem.W.nsIn K mainGlobals "dict" = some none)
    (z_enumerate : PySem.W.nsIn K mainGlobals "enumerate" = some none)
    (z_int : PySem.W.nsIn K mainGlobals "int" = some none)
    (z_isinstance : PySem.W.nsIn K mainGlobals "isinstance" = some none)
    (z_len : PySem.W.nsIn K mainGlobals "len" = some none)
    (z_list : PySem.W.nsIn K mainGlobals "list" = some none)
    (z_min : PySem.W.nsIn K mainGlobals "min" = some none)
    (z_range : PySem.W.nsIn K mainGlobals "range" = some none)
    (z_set : PySem.W.nsIn K mainGlobals "set" = some none)
    (z_sorted : PySem.W.nsIn K mainGlobals "sorted" = some none)
    (z_str : PySem.W.nsIn K mainGlobals "str" = some none)
    (z_sum : PySem.W.nsIn K mainGlobals "sum" = some none)
    (z_tuple : PySem.W.nsIn K mainGlobals "tuple" = some none)
    (z_zip : PySem.W.nsIn K mainGlobals "zip" = some none)
    (hm : b_law kL (env0 27 1)) :
    ∃ fd : FuncData, (∀ (s : Shared) (v : Value), BindsTo s fd ⟨[v], []⟩ [("script", v)]) ∧ ∀ base : Heap, K.In base → base.Ns mainGlobals mg → FnOk l.prog w K mg base CX0 11 fa fd ["script"] (spLaw K) := by
  have e := hfa.symm.trans (PySem.W.mg_of X G a16)
  cases e
  have T : Bt ⟨K, l.prog, w⟩ mg := ⟨PySem.W.mg_none_of X G z_abs, PySem.W.mg_none_of X G z_all, PySem.W.mg_none_of X G z_any, PySem.W.mg_none_of X G z_bool, PySem.W.mg_none_of X G z_dict, PySem.W.mg_none_of X G z_enumerate, PySem.W.mg_none_of X G z_int, PySem.W.mg_none_of X G z_isinstance, PySem.W.mg_none_of X G z_len, PySem.W.mg_none_of X G z_list, PySem.W.mg_none_of X G z_min, PySem.W.mg_none_of X G z_range, PySem.W.mg_none_of X G z_set, PySem.W.mg_none_of X G z_sorted, PySem.W.mg_none_of X G z_str, PySem.W.mg_none_of X G z_sum, PySem.W.mg_none_of X G z_tuple, PySem.W.mg_none_of X G z_zip⟩
  have FL := fun_mk (st := s_law) l16 c16 k16
  refine ⟨PySem.W.fnOf "law" "law" (defArgs s_law) (defBody s_law) (defScope s_law) .none kV16 dc16 pm16 an16 cd16 ct16, fun s v => .of_eq rfl, fun base _ _ => ?_⟩
  have d__law_draw : Df l.prog w K mg base "_law_draw" 1 ["script"] (spDraw K) := df_mk (st := sDr) X G a0 l0 c0 k0 (fun _ _ _ _ _ _ us hl => match us, hl with | [_], _ => rfl) (fun f fd F => ok_draw F T.b_list)
  have d__law_next : Df l.prog w K mg base "_law_next" 1 ["draw", "many"] spNext := df_mk (st := sNx) X G a1 l1 c1 k1 (fun _ _ _ _ _ _ us hl => match us, hl with | [_, _], _ => rfl) (fun f fd F => ok_next F ⟨T.b_len, T.b_abs, T.b_int⟩)
  have d__law_same : Df l.prog w K mg base "_law_same" 9 ["actual", "due"] (spOf ⟨K, l.prog, w⟩ m__law_same 2) := same_df T X G a2 l2 c2 k2
  have d_pauses : Df l.prog w K mg base "pauses" 2 ["works"] (spOf ⟨K, l.prog, w⟩ m_pauses 1) := df_mk (st := s_pauses) X G a3 l3 c3 k3 (fun _ _ _ _ _ _ us hl => match us, hl with | [_], _ => rfl) (fun f fd F => w_pauses T  F)
  have d_own_minutes : Df l.prog w K mg base "own_minutes" 2 ["works"] (spOf ⟨K, l.prog, w⟩ m_own_minutes 1) := df_mk (st := s_own_minutes) X G a4 l4 c4 k4 (fun _ _ _ _ _ _ us hl => match us, hl with | [_], _ => rfl) (fun f fd F => w_own_minutes T  F)
  have d_least_cost : Df l.prog w K mg base "least_cost" 3 ["works", "wake"] (spOf ⟨K, l.prog, w⟩ m_least_cost 2) := df_mk (st := s_least_cost) X G a5 l5 c5 k5 (fun _ _ _ _ _ _ us hl => match us, hl with | [_, _], _ => rfl) (fun f fd F => w_least_cost T d_pauses d_own_minutes F)
  have d_thumb_cost : Df l.prog w K mg base "thumb_cost" 3 ["works", "wake"] (spOf ⟨K, l.prog, w⟩ m_thumb_cost 2) := df_mk (st := s_thumb_cost) X G a6 l6 c6 k6 (fun _ _ _ _ _ _ us hl => match us, hl with | [_, _], _ => rfl) (fun f fd F => w_thumb_cost T d_own_minutes d_pauses F)
  have d_limited_cost : Df l.prog w K mg base "limited_cost" 3 ["works", "wake", "limit"] (spOf ⟨K, l.prog, w⟩ m_limited_cost 3) := df_mk (st := s_limited_cost) X G a7 l7 c7 k7 (fun _ _ _ _ _ _ us hl => match us, hl with | [_, _, _], _ => rfl) (fun f fd F => w_limited_cost T d_pauses d_own_minutes F)
  have d_polls : Df l.prog w K mg base "polls" 2 ["first", "period", "end"] (spOf ⟨K, l.prog, w⟩ m_polls 3) := df_mk (st := s_polls) X G a8 l8 c8 k8 (fun _ _ _ _ _ _ us hl => match us, hl with | [_, _, _], _ => rfl) (fun f fd F => w_polls T  F)
  have d_delays : Df l.prog w K mg base "delays" 2 ["changes", "minutes"] (spOf ⟨K, l.prog, w⟩ m_delays 2) := df_mk (st := s_delays) X G a9 l9 c9 k9 (fun _ _ _ _ _ _ us hl => match us, hl with | [_, _], _ => rfl) (fun f fd F => w_delays T  F)
  have d_cost_of : Df l.prog w K mg base "cost_of" 3 ["changes", "period", "end", "price", "miss"] (spOf ⟨K, l.prog, w⟩ m_cost_of 5) := df_mk (st := s_cost_of) X G a10 l10 c10 k10 (fun _ _ _ _ _ _ us hl => match us, hl with | [_, _, _, _, _], _ => rfl) (fun f fd F => w_cost_of T d_polls d_delays F)
  have d_best_period : Df l.prog w K mg base "best_period" 4 ["changes", "end", "price", "miss", "most"] (spOf ⟨K, l.prog, w⟩ m_best_period 5) := df_mk (st := s_best_period) X G a11 l11 c11 k11 (fun _ _ _ _ _ _ us hl => match us, hl with | [_, _, _, _, _], _ => rfl) (fun f fd F => w_best_period T d_cost_of F)
  have d_idle_polls : Df l.prog w K mg base "idle_polls" 2 ["changes", "minutes"] (spOf ⟨K, l.prog, w⟩ m_idle_polls 2) := df_mk (st := s_idle_polls) X G a12 l12 c12 k12 (fun _ _ _ _ _ _ us hl => match us, hl with | [_, _], _ => rfl) (fun f fd F => w_idle_polls T  F)
  have d_longest_idle : Df l.prog w K mg base "longest_idle" 3 ["changes", "minutes"] (spOf ⟨K, l.prog, w⟩ m_longest_idle 2) := df_mk (st := s_longest_idle) X G a13 l13 c13 k13 (fun _ _ _ _ _ _ us hl => match us, hl with | [_, _], _ => rfl) (fun f fd F => w_longest_idle T d_idle_polls F)
  have d_backing_off : Df l.prog w K mg base "backing_off" 2 ["changes", "end", "most"] (spOf ⟨K, l.prog, w⟩ m_backing_off 3) := df_mk (st := s_backing_off) X G a14 l14 c14 k14 (fun _ _ _ _ _ _ us hl => match us, hl with | [_, _, _], _ => rfl) (fun f fd F => w_backing_off T  F)
  have d__law_power : Df l.prog w K mg base "_law_power" 10 ["draw"] (spOf ⟨K, l.prog, w⟩ m__law_power 1) := df_mk (st := s__law_power) X G a15 l15 c15 k15 (fun _ _ _ _ _ _ us hl => match us, hl with | [_], _ => rfl) (fun f fd F => w__law_power T d__law_next d__law_same d_least_cost d_thumb_cost d_limited_cost F)
  exact w_law T d__law_draw d__law_power d__law_next d__law_same d_polls d_delays d_cost_of d_best_period d_longest_idle d_backing_off FL hm
end
end Mi
open PySem PySem.W
set_option maxRecDepth 100000 in
set_option maxHeartbeats 0 in
theorem PySem.Challenge.cw_jobwarden_k31_power_and_polling_holds : PySem.Challenge.rw_jobwarden_k31_power_and_polling.Holds := by
  w_on; o_law; k_head; (case hw => w_witness2)
  k_fill
  refine Mi.walk (k := 11) (l := PySem.Challenge.rw_jobwarden_k31_power_and_polling) ⟨rfl, by decide, by decide⟩ rfl rfl (fun w h Y => PySem.W.kIn_of Y) ?F
  case F =>
    intro w mg fa h KX G hmg
    refine' Mi.all_mk KX G hmg ?a0 ?l0 ?c0 ?k0 ?a1 ?l1 ?c1 ?k1 ?a2 ?l2 ?c2 ?k2 ?a3 ?l3 ?c3 ?k3 ?a4 ?l4 ?c4 ?k4 ?a5 ?l5 ?c5 ?k5 ?a6 ?l6 ?c6 ?k6 ?a7 ?l7 ?c7 ?k7 ?a8 ?l8 ?c8 ?k8 ?a9 ?l9 ?c9 ?k9 ?a10 ?l10 ?c10 ?k10 ?a11 ?l11 ?c11 ?k11 ?a12 ?l12 ?c12 ?k12 ?a13 ?l13 ?c13 ?k13 ?a14 ?l14 ?c14 ?k14 ?a15 ?l15 ?c15 ?k15 ?a16 ?l16 ?c16 ?k16 ?z_abs ?z_all ?z_any ?z_bool ?z_dict ?z_enumerate ?z_int ?z_isinstance ?z_len ?z_list ?z_min ?z_range ?z_set ?z_sorted ?z_str ?z_sum ?z_tuple ?z_zip Mi.law_math
    (case a0 => k_is)
    (case l0 => k_is)
    (case c0 => k_is)
    (case k0 => k_is)
    (case a1 => k_is)
    (case l1 => k_is)
    (case c1 => k_is)
    (case k1 => k_is)
    (case a2 => k_is)
    (case l2 => k_is)
    (case c2 => k_is)
    (case k2 => k_is)
    (case a3 => k_is)
    (case l3 => k_is)
    (case c3 => k_is)
    (case k3 => k_is)
    (case a4 => k_is)
    (case l4 => k_is)
    (case c4 => k_is)
    (case k4 => k_is)
    (case a5 => k_is)
    (case l5 => k_is)
    (case c5 => k_is)
    (case k5 => k_is)
    (case a6 => k_is)
    (case l6 => k_is)
    (case c6 => k_is)
    (case k6 => k_is)
    (case a7 => k_is)
    (case l7 => k_is)
    (case c7 => k_is)
    (case k7 => k_is)
    (case a8 => k_is)
    (case l8 => k_is)
    (case c8 => k_is)
    (case k8 => k_is)
    (case a9 => k_is)
    (case l9 => k_is)
    (case c9 => k_is)
    (case k9 => k_is)
    (case a10 => k_is)
    (case l10 => k_is)
    (case c10 => k_is)
    (case k10 => k_is)
    (case a11 => k_is)
    (case l11 => k_is)
    (case c11 => k_is)
    (case k11 => k_is)
    (case a12 => k_is)
    (case l12 => k_is)
    (case c12 => k_is)
    (case k12 => k_is)
    (case a13 => k_is)
    (case l13 => k_is)
    (case c13 => k_is)
    (case k13 => k_is)
    (case a14 => k_is)
    (case l14 => k_is)
    (case c14 => k_is)
    (case k14 => k_is)
    (case a15 => k_is)
    (case l15 => k_is)
    (case c15 => k_is)
    (case k15 => k_is)
    (case a16 => k_is)
    (case l16 => k_is)
    (case c16 => k_is)
    (case k16 => k_is)
    (case z_abs => k_is)
    (case z_all => k_is)
    (case z_any => k_is)
    (case z_bool => k_is)
    (case z_dict => k_is)
    (case z_enumerate => k_is)
    (case z_int => k_is)
    (case z_isinstance => k_is)
    (case z_len => k_is)
    (case z_list => k_is)
    (case z_min => k_is)
    (case z_range => k_is)
    (case z_set => k_is)
    (case z_sorted => k_is)
    (case z_str => k_is)
    (case z_sum => k_is)
    (case z_tuple => k_is)
    (case z_zip => k_is)
