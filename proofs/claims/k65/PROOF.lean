import PyProof.Rows.All
import Wide.All
import OpenK.AllK
import Wide.FinOn
import HandS.ForMost
import HandS.Exc
import HandS.TryOnly
import HandS.ExcOwn
import HandS.WordsExc
import HandS.Wide
import HandS.Deep
import HandS.Style
import HandS.Text
import HandS.IsInst
import HandS.Conv
import HandS.SortInts
import HandS.Iter
import HandS.Rev
import KE.GoesEnum
import HandS.Comp
import HandS.Zip
import HandS.Strs
import HandS.Ends
import HandS.TryElse
import HandS.ExcIs
import HandS.More
import HandS.Dict
import KE.DataMinMax
import KE.DataCmp
import KE.SortData
import HandS.MapObj
import PyProof.Rows.StrMul
import HandS.HotCalls
import HandS.Defaults
import HandS.CallSlots
import PyProof.P3In
import HandS.SetFor
import HandS.Replace
import PySem.Challenge.RW_squaresheet_k65_whole_twists_come_round
set_option Elab.async false
set_option linter.all false
set_option maxRecDepth 100000
/-! Pure readings: values as data, own lists as slots; the core. -/
namespace Sq
open PySem PySem.Spec PyProof.Rows L2

abbrev D := PyData

def Ex (H H' : Hp) : Prop := ∀ a o, H a = some o → H' a = some o
theorem Ex.refl (H : Hp) : Ex H H := fun _ _ h => h
theorem Ex.trans {H H1 H2 : Hp} (a : Ex H H1) (b : Ex H1 H2) : Ex H H2 := fun x o h => b x o (a x o h)
theorem Ex.new {H : Hp} {p : Addr} {o : HO} (h : H p = none) : Ex H (upd H p o) := fun a u e => by
  rw [upd_ne (ne_of_none e h)]
  exact e
theorem Ex.mut {H H' : Hp} {p : Addr} {o : HO} (e : Ex H H') (h : H p = none) : Ex H (upd H' p o) := fun a u ha => by
  rw [upd_ne (ne_of_none ha h)]
  exact e a u ha
theorem Ex.both {H H' : Hp} {p : Addr} {o : HO} (e : Ex H H') : Ex (upd H p o) (upd H' p o) := fun a u ha => by
  by_cases h : a = p
  · subst h
    rw [upd_same] at ha ⊢
    exact ha
  · rw [upd_ne h] at ha ⊢
    exact e a u ha
theorem Ex.back {H H' : Hp} {p : Addr} (e : Ex H H') (h : H' p = none) : H p = none := by
  cases h1 : H p with
  | none => rfl
  | some o =>
    rw [e p o h1] at h
    cases h
theorem ex_rd {H H' : Hp} {a : Addr} {u : HO} (e : Ex H H') (h : Rd H a u) : Rd H' a u := by
  rcases h with h | ⟨o, h⟩
  · exact .inl (e a _ h)
  · exact .inr ⟨o, e a _ h⟩
theorem ex_l {K : PySem.W.Frag} {H H' : Hp} {a : Addr} {xs : List V} (e : Ex H H') (h : SqL K H a xs) : SqL K H' a xs := by
  rcases h with h | h
  · exact .inl (ex_rd e h)
  · exact .inr h
theorem ex_t {K : PySem.W.Frag} {H H' : Hp} {a : Addr} {xs : List V} (e : Ex H H') (h : SqT K H a xs) : SqT K H' a xs := by
  rcases h with h | h
  · exact .inl (ex_rd e h)
  · exact .inr h
mutual
theorem ex_dp {K : PySem.W.Frag} {H H' : Hp} (e : Ex H H') : ∀ {v : V} {d : D}, Dp K H v d → Dp K H' v d
  | _, _, .non => .non
  | _, _, .bl b => .bl b
  | _, _, .int i => .int i
  | _, _, .str x => .str x
  | _, _, .lst h ha => .lst (ex_l e h) (ex_dpa e ha)
  | _, _, .tup h ha => .tup (ex_t e h) (ex_dpa e ha)
theorem ex_dpa {K : PySem.W.Frag} {H H' : Hp} (e : Ex H H') : ∀ {vs : List V} {ds : List D}, DpAll K H vs ds → DpAll K H' vs ds
  | _, _, .nil => .nil
  | _, _, .cons h t => .cons (ex_dp e h) (ex_dpa e t)
end
end Sq
namespace L2
open PySem PySem.Spec PyProof.Rows
theorem DpAll.len {K : PySem.W.Frag} {H : Hp} : ∀ {vs : List V} {ds : List PyData}, DpAll K H vs ds → vs.length = ds.length
  | _, _, .nil => rfl
  | _, _, .cons _ t => congrArg (· + 1) (DpAll.len t)
theorem DpAll.get {K : PySem.W.Frag} {H : Hp} : ∀ {vs : List V} {ds : List PyData} {i : Nat} {d : PyData}, DpAll K H vs ds → ds[i]? = some d → ∃ v, vs[i]? = some v ∧ Dp K H v d
  | _, _, _, _, .nil, e => by simp at e
  | _, _, 0, _, .cons h t, e => ⟨_, rfl, by
    have e' : some _ = some _ := e
    cases e'
    exact h⟩
  | _, _, i + 1, d, .cons h t, e => by
    obtain ⟨v, h1, h2⟩ := DpAll.get (i := i) (d := d) t (by simpa using e)
    exact ⟨v, by simpa using h1, h2⟩
theorem DpAll.getV {K : PySem.W.Frag} {H : Hp} : ∀ {vs : List V} {ds : List PyData} {i : Nat} {v : V}, DpAll K H vs ds → vs[i]? = some v → ∃ d, ds[i]? = some d ∧ Dp K H v d
  | _, _, _, _, .nil, e => by simp at e
  | _, _, 0, _, .cons h t, e => ⟨_, rfl, by
    have e' : some _ = some _ := e
    cases e'
    exact h⟩
  | _, _, i + 1, v, .cons h t, e => by
    obtain ⟨d, h1, h2⟩ := DpAll.getV (i := i) (v := v) t (by simpa using e)
    exact ⟨d, by simpa using h1, h2⟩
theorem DpAll.append {K : PySem.W.Frag} {H : Hp} : ∀ {vs ws : List V} {ds es : List PyData}, DpAll K H vs ds → DpAll K H ws es → DpAll K H (vs ++ ws) (ds ++ es)
  | _, _, _, _, .nil, s => s
  | _, _, _, _, .cons r t, s => .cons r (DpAll.append t s)
theorem DpAll.set {K : PySem.W.Frag} {H : Hp} {v : V} {d : PyData} (r : Dp K H v d) : ∀ {vs : List V} {ds : List PyData} (i : Nat), DpAll K H vs ds → DpAll K H (vs.set i v) (ds.set i d)
  | _, _, _, .nil => .nil
  | _, _, 0, .cons _ t => .cons r t
  | _, _, i + 1, .cons q t => .cons q (DpAll.set r i t)
theorem DpAll.take {K : PySem.W.Frag} {H : Hp} : ∀ {vs : List V} {ds : List PyData} (n : Nat), DpAll K H vs ds → DpAll K H (vs.take n) (ds.take n)
  | _, _, 0, _ => .nil
  | _, _, _ + 1, .nil => .nil
  | _, _, n + 1, .cons r t => .cons r (DpAll.take n t)
theorem DpAll.drop {K : PySem.W.Frag} {H : Hp} : ∀ {vs : List V} {ds : List PyData} (n : Nat), DpAll K H vs ds → DpAll K H (vs.drop n) (ds.drop n)
  | _, _, 0, r => r
  | _, _, _ + 1, .nil => .nil
  | _, _, n + 1, .cons _ t => DpAll.drop n t
theorem DpAll.eraseIdx {K : PySem.W.Frag} {H : Hp} : ∀ {vs : List V} {ds : List PyData} (n : Nat), DpAll K H vs ds → DpAll K H (vs.eraseIdx n) (ds.eraseIdx n)
  | _, _, _, .nil => .nil
  | _, _, 0, .cons _ t => t
  | _, _, n + 1, .cons r t => .cons r (DpAll.eraseIdx n t)
theorem DpAll.snoc {K : PySem.W.Frag} {H : Hp} {vs : List V} {ds : List PyData} {v : V} {d : PyData} (a : DpAll K H vs ds) (h : Dp K H v d) : DpAll K H (vs ++ [v]) (ds ++ [d]) := a.append (.cons h .nil)
theorem DpAll.reverse {K : PySem.W.Frag} {H : Hp} : ∀ {vs : List V} {ds : List PyData}, DpAll K H vs ds → DpAll K H vs.reverse ds.reverse
  | _, _, .nil => .nil
  | _, _, .cons r t => by
    rw [List.reverse_cons, List.reverse_cons]
    exact (DpAll.reverse t).snoc r

end L2
namespace Sq
open PySem PySem.Spec PyProof.Rows L2
/-! ### slots, results -/
inductive Sl where
  /-- not known -/
  | u
  /-- data that stays; data that stays while the call runs (it may lie in an argument that the caller changes later) -/
  | v (d : D)
  | b (d : D)
  /-- a list of one's own, a dict of one's own -/
  | o (xs : List D)
  | k (kvs : List (Key × D))
  | t (kvs : List (List Key × D))
  /-- the exception of a suite -/
  | x (a : Addr)
abbrev Env := List Sl
/-- what an expression gives -/
inductive Rv where
  | v (d : D)
  | b (d : D)
  /-- readable here and now -/
  | r (d : D)
  /-- an own list seen; a new list -/
  | w (xs : List D)
  | o (xs : List D)
  /-- own dicts seen; new ones -/
  | wk (kvs : List (Key × D))
  | ok (kvs : List (Key × D))
  | wt (kvs : List (List Key × D))
  | ot (kvs : List (List Key × D))
  /-- two new lists in a new tuple -/
  | p2 (xs ys : List D)
inductive Er (α : Type) where
  | ok (a : α)
  | exc (c : Str) (p : Option (Str × D))
  | bad
def Er.bind {α β : Type} : Er α → (α → Er β) → Er β
  | .ok a, f => f a
  | .exc c p, _ => .exc c p
  | .bad, _ => .bad
def Rv.dat : Rv → Option D
  | .v d => some d
  | .b d => some d
  | .r d => some d
  | .w xs => some (.list xs)
  | .o xs => some (.list xs)
  | _ => none
abbrev EF := Env → Er Rv

/-- three heaps: what stays, what stays while the call runs, all -/
structure Hs where
  G : Hp
  F : Hp
  H : Hp
structure Ch (h : Hs) : Prop where
  gf : Ex h.G h.F
  fh : Ex h.F h.H
theorem Ch.gh {h : Hs} (c : Ch h) : Ex h.G h.H := c.gf.trans c.fh

def KvD (K : PySem.W.Frag) (G : Hp) {κ : Type} : List (κ × V) → List (κ × D) → Prop := Paired fun p q => p.1 = q.1 ∧ Dp K G p.2 q.2
theorem KvD.ex {K : PySem.W.Frag} {G G' : Hp} {κ : Type} {l : List (κ × V)} {m : List (κ × D)} (e : Ex G G') (h : KvD K G l m) : KvD K G' l m := Paired.mapP h fun _ _ q => ⟨q.1, ex_dp e q.2⟩

/-- what stands in a slot -/
def SlOk (K : PySem.W.Frag) (h : Hs) (x : Option V) : Sl → Prop
  | .u => True
  | .x a => x = some (.ref a)
  | .v d => ∃ v, x = some v ∧ Dp K h.G v d
  | .b d => ∃ v, x = some v ∧ Dp K h.F v d
  | .o xs => ∃ l vs, x = some (.ref l) ∧ h.H l = some (.lst vs) ∧ h.F l = none ∧ DpAll K h.G vs xs
  | .k kvs => ∃ l vs, x = some (.ref l) ∧ h.H l = some (.dK vs) ∧ h.F l = none ∧ KvD K h.G vs kvs
  | .t kvs => ∃ l vs, x = some (.ref l) ∧ h.H l = some (.dT vs) ∧ h.F l = none ∧ KvD K h.G vs kvs
def Sl.own : Sl → Bool
  | .o _ => true
  | .k _ => true
  | .t _ => true
  | _ => false
structure Rel (K : PySem.W.Frag) (h : Hs) (ρ : Env) (σ : L2.St) : Prop where
  ch : Ch h
  len : ρ.length = σ.length
  at_ : ∀ (i : Nat) (s : Sl) (x : Option V), ρ[i]? = some s → σ[i]? = some x → SlOk K h x s
  dis : ∀ (i j : Nat) (s t : Sl) (l m : Addr), i ≠ j → ρ[i]? = some s → ρ[j]? = some t → s.own = true → t.own = true → σ[i]? = some (some (.ref l)) → σ[j]? = some (some (.ref m)) → l ≠ m
/-- how the heaps grow: through an expression; through a statement -/
structure Gr (h h' : Hs) : Prop where
  g : Ex h.G h'.G
  f : Ex h.F h'.F
  x : Ex h.H h'.H
  gn : ∀ a o, h'.G a = some o → h.G a = none → h.F a = none
  fn : ∀ a o, h'.F a = some o → h.F a = none → h.H a = none
structure SG (h h' : Hs) : Prop where
  g : Ex h.G h'.G
  f : Ex h.F h'.F
  gn : ∀ a o, h'.G a = some o → h.G a = none → h.F a = none
theorem Gr.sg {h h' : Hs} (g : Gr h h') : SG h h' := ⟨g.g, g.f, g.gn⟩
theorem Gr.refl (h : Hs) : Gr h h := ⟨Ex.refl _, Ex.refl _, Ex.refl _, fun a o e n => by (rw [n] at e; cases e), fun a o e n => by (rw [n] at e; cases e)⟩
theorem SG.refl (h : Hs) : SG h h := (Gr.refl h).sg
theorem SG.trans {h h1 h2 : Hs} (a : SG h h1) (b : SG h1 h2) : SG h h2 := ⟨a.g.trans b.g, a.f.trans b.f, fun x o e n => by
  cases q : h1.G x with
  | none => exact a.f.back (b.gn x o e q)
  | some u => exact a.gn x u q n⟩
theorem Gr.trans {h h1 h2 : Hs} (a : Gr h h1) (b : Gr h1 h2) : Gr h h2 := ⟨a.g.trans b.g, a.f.trans b.f, a.x.trans b.x, (a.sg.trans b.sg).gn, fun x o e n => by
  cases q : h1.F x with
  | none => exact a.x.back (b.fn x o e q)
  | some u => exact a.fn x u q n⟩
theorem Gr.keepN {h h' : Hs} (g : Gr h h') {l : Addr} {o : HO} (a : h.F l = none) (b : h.H l = some o) : h'.F l = none := by
  cases q : h'.F l with
  | none => rfl
  | some u =>
    rw [g.fn l u q a] at b
    cases b
theorem SlOk.grow {K : PySem.W.Frag} {h h' : Hs} {x : Option V} (g : Gr h h') : ∀ {s : Sl}, SlOk K h x s → SlOk K h' x s
  | .u, _ => trivial
  | .x a, q => q
  | .v d, ⟨v, e, q⟩ => ⟨v, e, ex_dp g.g q⟩
  | .b d, ⟨v, e, q⟩ => ⟨v, e, ex_dp g.f q⟩
  | .o xs, ⟨l, vs, e, a, b, q⟩ => ⟨l, vs, e, g.x _ _ a, g.keepN b a, ex_dpa g.g q⟩
  | .k xs, ⟨l, vs, e, a, b, q⟩ => ⟨l, vs, e, g.x _ _ a, g.keepN b a, q.ex g.g⟩
  | .t xs, ⟨l, vs, e, a, b, q⟩ => ⟨l, vs, e, g.x _ _ a, g.keepN b a, q.ex g.g⟩
theorem Rel.grow {K : PySem.W.Frag} {h h' : Hs} {ρ : Env} {σ : L2.St} (r : Rel K h ρ σ) (g : Gr h h') (c : Ch h') : Rel K h' ρ σ :=
  ⟨c, r.len, fun i s x a b => (r.at_ i s x a b).grow g, r.dis⟩
/-- the own object of a slot is known to all -/
theorem Rel.ownH {K : PySem.W.Frag} {h : Hs} {ρ : Env} {σ : L2.St} (r : Rel K h ρ σ) {i : Nat} {s : Sl} {l : Addr} (a : ρ[i]? = some s) (b : s.own = true) (c : σ[i]? = some (some (.ref l))) : (∃ o, h.H l = some o) ∧ h.F l = none := by
  have q := r.at_ i s _ a c
  cases s with
  | o xs =>
    obtain ⟨m, vs, e, x, y, _⟩ := q
    cases e
    exact ⟨⟨_, x⟩, y⟩
  | k xs =>
    obtain ⟨m, vs, e, x, y, _⟩ := q
    cases e
    exact ⟨⟨_, x⟩, y⟩
  | t xs =>
    obtain ⟨m, vs, e, x, y, _⟩ := q
    cases e
    exact ⟨⟨_, x⟩, y⟩
  | u => cases b
  | x a => cases b
  | v d => cases b
  | b d => cases b
theorem Rel.ownRef {K : PySem.W.Frag} {h : Hs} {ρ : Env} {σ : L2.St} (r : Rel K h ρ σ) {i : Nat} {s : Sl} (a : ρ[i]? = some s) (b : s.own = true) : ∃ l, σ[i]? = some (some (.ref l)) := by
  have hi : i < σ.length := by
    rw [← r.len]
    exact (List.getElem?_eq_some_iff.mp a).1
  have e : σ[i]? = some σ[i] := List.getElem?_eq_getElem hi
  have q := r.at_ i s _ a e
  cases s with
  | o xs =>
    obtain ⟨m, vs, e2, _⟩ := q
    exact ⟨m, by rw [e, e2]⟩
  | k xs =>
    obtain ⟨m, vs, e2, _⟩ := q
    exact ⟨m, by rw [e, e2]⟩
  | t xs =>
    obtain ⟨m, vs, e2, _⟩ := q
    exact ⟨m, by rw [e, e2]⟩
  | u => cases b
  | x a => cases b
  | v d => cases b
  | b d => cases b

/-- a result lies there; h0: the heap ahead of it -/
def RvOk (K : PySem.W.Frag) (H0 : Hp) (h : Hs) (v : V) : Rv → Prop
  | .v d => Dp K h.G v d
  | .b d => Dp K h.F v d
  | .r d => Dp K h.H v d
  | .w xs => ∃ l vs, v = .ref l ∧ h.H l = some (.lst vs) ∧ DpAll K h.G vs xs
  | .o xs => ∃ l vs, v = .ref l ∧ H0 l = none ∧ h.H l = some (.lst vs) ∧ h.F l = none ∧ DpAll K h.G vs xs
  | .wk xs => ∃ l vs, v = .ref l ∧ h.H l = some (.dK vs) ∧ KvD K h.G vs xs
  | .ok xs => ∃ l vs, v = .ref l ∧ H0 l = none ∧ h.H l = some (.dK vs) ∧ h.F l = none ∧ KvD K h.G vs xs
  | .wt xs => ∃ l vs, v = .ref l ∧ h.H l = some (.dT vs) ∧ KvD K h.G vs xs
  | .ot xs => ∃ l vs, v = .ref l ∧ H0 l = none ∧ h.H l = some (.dT vs) ∧ h.F l = none ∧ KvD K h.G vs xs
  | .p2 xs ys => ∃ t l m vs ws, v = .ref t ∧ h.H t = some (.tup [.ref l, .ref m]) ∧ l ≠ m ∧ (H0 l = none ∧ h.H l = some (.lst vs) ∧ h.F l = none ∧ DpAll K h.G vs xs) ∧ (H0 m = none ∧ h.H m = some (.lst ws) ∧ h.F m = none ∧ DpAll K h.G ws ys)
theorem RvOk.grow {K : PySem.W.Frag} {H0 : Hp} {h h' : Hs} {v : V} (g : Gr h h') : ∀ {r : Rv}, RvOk K H0 h v r → RvOk K H0 h' v r
  | .v d, q => ex_dp g.g q
  | .b d, q => ex_dp g.f q
  | .r d, q => ex_dp g.x q
  | .w xs, ⟨l, vs, e, a, q⟩ => ⟨l, vs, e, g.x _ _ a, ex_dpa g.g q⟩
  | .o xs, ⟨l, vs, e, n, a, b, q⟩ => ⟨l, vs, e, n, g.x _ _ a, g.keepN b a, ex_dpa g.g q⟩
  | .wk xs, ⟨l, vs, e, a, q⟩ => ⟨l, vs, e, g.x _ _ a, q.ex g.g⟩
  | .ok xs, ⟨l, vs, e, n, a, b, q⟩ => ⟨l, vs, e, n, g.x _ _ a, g.keepN b a, q.ex g.g⟩
  | .wt xs, ⟨l, vs, e, a, q⟩ => ⟨l, vs, e, g.x _ _ a, q.ex g.g⟩
  | .ot xs, ⟨l, vs, e, n, a, b, q⟩ => ⟨l, vs, e, n, g.x _ _ a, g.keepN b a, q.ex g.g⟩
  | .p2 xs ys, ⟨t, l, m, vs, ws, e, ht, ne, ⟨n, a, b, q⟩, ⟨n2, a2, b2, q2⟩⟩ => ⟨t, l, m, vs, ws, e, g.x _ _ ht, ne, ⟨n, g.x _ _ a, g.keepN b a, ex_dpa g.g q⟩, ⟨n2, g.x _ _ a2, g.keepN b2 a2, ex_dpa g.g q2⟩⟩
theorem RvOk.old {K : PySem.W.Frag} {H0 H1 : Hp} {h : Hs} {v : V} (g : Ex H0 H1) : ∀ {r : Rv}, RvOk K H1 h v r → RvOk K H0 h v r
  | .v d, q => q
  | .b d, q => q
  | .r d, q => q
  | .w xs, q => q
  | .o xs, ⟨l, vs, e, n, q⟩ => ⟨l, vs, e, g.back n, q⟩
  | .wk xs, q => q
  | .ok xs, ⟨l, vs, e, n, q⟩ => ⟨l, vs, e, g.back n, q⟩
  | .wt xs, q => q
  | .ot xs, ⟨l, vs, e, n, q⟩ => ⟨l, vs, e, g.back n, q⟩
  | .p2 xs ys, ⟨t, l, m, vs, ws, e, ht, ne, ⟨n, q⟩, ⟨n2, q2⟩⟩ => ⟨t, l, m, vs, ws, e, ht, ne, ⟨g.back n, q⟩, ⟨g.back n2, q2⟩⟩
/-- read as data -/
theorem RvOk.dp {K : PySem.W.Frag} {H0 : Hp} {h : Hs} {v : V} (c : Ch h) : ∀ {r : Rv} {d : D}, RvOk K H0 h v r → r.dat = some d → Dp K h.H v d
  | .v _, _, q, e => by cases e; exact ex_dp c.gh q
  | .b _, _, q, e => by cases e; exact ex_dp c.fh q
  | .r _, _, q, e => by cases e; exact q
  | .w _, _, ⟨l, vs, e1, a, q⟩, e => by cases e; subst e1; exact .lst (.of a) (ex_dpa c.gh q)
  | .o _, _, ⟨l, vs, e1, n, a, b, q⟩, e => by cases e; subst e1; exact .lst (.of a) (ex_dpa c.gh q)

/-! ### readings -/
/-- what is wanted of an exception: its class by name, its one field -/
abbrev WF := Str → Option (Str × D) → L2.St → Hs → Prop
section
variable (K : PySem.W.Frag) (W : WF)
def tX (f : EF) : TE := fun σ H Q => ∃ h ρ, h.H = H ∧ Rel K h ρ σ ∧
  match f ρ with
  | .ok r => ∀ v h', Rel K h' ρ σ → Gr h h' → RvOk K h.H h' v r → Q v h'.H
  | .exc c p => ∀ h', Rel K h' ρ σ → Gr h h' → W c p σ h'
  | .bad => False
/-- a test -/
def tXt (f : Env → Er Bool) : TT := fun σ H Q => ∃ h ρ, h.H = H ∧ Rel K h ρ σ ∧
  match f ρ with
  | .ok b => ∀ h', Rel K h' ρ σ → Gr h h' → Q b h'.H
  | .exc c p => ∀ h', Rel K h' ρ σ → Gr h h' → W c p σ h'
  | .bad => False
end
/-- a result as it is put into something else: new lists are frozen -/
def Rv.frz : Rv → Er Rv
  | .v d => .ok (.v d)
  | .b d => .ok (.b d)
  | .r d => .ok (.r d)
  | .w xs => .ok (.r (.list xs))
  | .o xs => .ok (.v (.list xs))
  | _ => .bad
end Sq

/-! Expressions. -/
namespace Sq
open PySem PySem.Spec PyProof.Rows L2

theorem peTo {X : Cx} {e : Expr} {t t' : TE} (h : PE X e t) (i : ∀ σ H Q, t' σ H Q → t σ H Q) : PE X e t' := ⟨fun pins s σ H Q I hw => h.run pins s σ H Q I (i σ H Q hw)⟩
theorem ptTo {X : Cx} {e : Expr} {t t' : TT} (h : PT X e t) (i : ∀ σ H Q, t' σ H Q → t σ H Q) : PT X e t' := ⟨fun pins s σ H Q I hw => h.run pins s σ H Q I (i σ H Q hw)⟩
theorem pwTo {X : Cx} {e : Expr} {t t' : TT} (h : PW X e t) (i : ∀ σ H Q, t' σ H Q → t σ H Q) : PW X e t' := ⟨fun wh pins s σ H Q I hw => h.run wh pins s σ H Q I (i σ H Q hw)⟩
theorem paTo {X : Cx} {e : List Expr} {t t' : TA} (h : PA X e t) (i : ∀ σ H Q, t' σ H Q → t σ H Q) : PA X e t' := ⟨fun pos pins s σ H Q I hw => h.run pos pins s σ H Q I (i σ H Q hw)⟩
theorem psTo {X : Cx} {e : Stmt} {t t' : TS} (h : PS X e t) (i : ∀ D σ H, t' D σ H → t D σ H) : PS X e t' := ⟨fun pins s σ H D I hw => h.run pins s σ H D I (i D σ H hw)⟩
theorem pssTo {X : Cx} {e : List Stmt} {t t' : TS} (h : PSs X e t) (i : ∀ D σ H, t' D σ H → t D σ H) : PSs X e t' := ⟨fun pins s σ H D I hw => h.run pins s σ H D I (i D σ H hw)⟩
theorem peOr {X : Cx} {e : Expr} {t t' : TE} (h : PE X e t) (h' : PE X e t') : PE X e (fun σ H Q => t σ H Q ∨ t' σ H Q) := ⟨fun pins s σ H Q I hw => hw.elim (h.run pins s σ H Q I) (h'.run pins s σ H Q I)⟩
theorem ptOr {X : Cx} {e : Expr} {t t' : TT} (h : PT X e t) (h' : PT X e t') : PT X e (fun σ H Q => t σ H Q ∨ t' σ H Q) := ⟨fun pins s σ H Q I hw => hw.elim (h.run pins s σ H Q I) (h'.run pins s σ H Q I)⟩

section
variable {K : PySem.W.Frag} {W : WF}
/-- what is wanted of a result at h -/
def PE1 (K : PySem.W.Frag) (W : WF) (h : Hs) (ρ : Env) (σ : L2.St) (Q : VK) : Er Rv → Prop
  | .ok r => ∀ v h', Rel K h' ρ σ → Gr h h' → RvOk K h.H h' v r → Q v h'.H
  | .exc c p => ∀ h', Rel K h' ρ σ → Gr h h' → W c p σ h'
  | .bad => False
def PT1 (K : PySem.W.Frag) (W : WF) (h : Hs) (ρ : Env) (σ : L2.St) (Q : Bool → Hp → Prop) : Er Bool → Prop
  | .ok b => ∀ h', Rel K h' ρ σ → Gr h h' → Q b h'.H
  | .exc c p => ∀ h', Rel K h' ρ σ → Gr h h' → W c p σ h'
  | .bad => False
theorem tX_iff {f : EF} {σ : L2.St} {H : Hp} {Q : VK} : tX K W f σ H Q ↔ ∃ h ρ, h.H = H ∧ Rel K h ρ σ ∧ PE1 K W h ρ σ Q (f ρ) := by
  constructor
  · rintro ⟨h, ρ, e, r, q⟩
    refine ⟨h, ρ, e, r, ?_⟩
    unfold PE1
    split at q <;> simp_all
  · rintro ⟨h, ρ, e, r, q⟩
    refine ⟨h, ρ, e, r, ?_⟩
    unfold PE1 at q
    split <;> simp_all
theorem tXt_iff {f : Env → Er Bool} {σ : L2.St} {H : Hp} {Q : Bool → Hp → Prop} : tXt K W f σ H Q ↔ ∃ h ρ, h.H = H ∧ Rel K h ρ σ ∧ PT1 K W h ρ σ Q (f ρ) := by
  constructor
  · rintro ⟨h, ρ, e, r, q⟩
    refine ⟨h, ρ, e, r, ?_⟩
    unfold PT1
    split at q <;> simp_all
  · rintro ⟨h, ρ, e, r, q⟩
    refine ⟨h, ρ, e, r, ?_⟩
    unfold PT1 at q
    split <;> simp_all
theorem tX_mk {f : EF} {σ : L2.St} {h : Hs} {ρ : Env} {Q : VK} (r : Rel K h ρ σ) (q : PE1 K W h ρ σ Q (f ρ)) : tX K W f σ h.H Q := tX_iff.mpr ⟨h, ρ, rfl, r, q⟩
theorem tXt_mk {f : Env → Er Bool} {σ : L2.St} {h : Hs} {ρ : Env} {Q : Bool → Hp → Prop} (r : Rel K h ρ σ) (q : PT1 K W h ρ σ Q (f ρ)) : tXt K W f σ h.H Q := tXt_iff.mpr ⟨h, ρ, rfl, r, q⟩
variable {h h' h1 : Hs} {ρ : Env} {σ : L2.St} {Q : VK} {QB : Bool → Hp → Prop}
theorem PE1.shift (g : Gr h h1) : ∀ {e : Er Rv}, PE1 K W h ρ σ Q e → PE1 K W h1 ρ σ Q e
  | .ok r, q => fun v h' R g' ok => q v h' R (g.trans g') (ok.old g.x)
  | .exc c p, q => fun h' R g' => q h' R (g.trans g')
  | .bad, q => q
theorem PT1.shift (g : Gr h h1) : ∀ {e : Er Bool}, PT1 K W h ρ σ QB e → PT1 K W h1 ρ σ QB e
  | .ok r, q => fun h' R g' => q h' R (g.trans g')
  | .exc c p, q => fun h' R g' => q h' R (g.trans g')
  | .bad, q => q
/-- first e, then what follows -/
theorem PE1.bind {e : Er Rv} {k : Rv → Er Rv} (q : PE1 K W h ρ σ Q (e.bind k)) {Q' : VK}
    (hk : ∀ a v h', e = .ok a → Rel K h' ρ σ → Gr h h' → RvOk K h.H h' v a → PE1 K W h' ρ σ Q (k a) → Q' v h'.H) : PE1 K W h ρ σ Q' e := by
  cases e with
  | ok a => exact fun v h' R g ok => hk a v h' rfl R g ok (PE1.shift g q)
  | exc c p => exact q
  | bad => exact q
theorem PE1.bindT {e : Er Rv} {k : Rv → Er Bool} (q : PT1 K W h ρ σ QB (e.bind k)) {Q' : VK}
    (hk : ∀ a v h', e = .ok a → Rel K h' ρ σ → Gr h h' → RvOk K h.H h' v a → PT1 K W h' ρ σ QB (k a) → Q' v h'.H) : PE1 K W h ρ σ Q' e := by
  cases e with
  | ok a => exact fun v h' R g ok => hk a v h' rfl R g ok (PT1.shift g q)
  | exc c p => exact q
  | bad => exact q
theorem PT1.bind {e : Er Bool} {k : Bool → Er Rv} (q : PE1 K W h ρ σ Q (e.bind k)) {Q' : Bool → Hp → Prop}
    (hk : ∀ a h', e = .ok a → Rel K h' ρ σ → Gr h h' → PE1 K W h' ρ σ Q (k a) → Q' a h'.H) : PT1 K W h ρ σ Q' e := by
  cases e with
  | ok a => exact fun h' R g => hk a h' rfl R g (PE1.shift g q)
  | exc c p => exact q
  | bad => exact q
theorem PT1.bindT {e : Er Bool} {k : Bool → Er Bool} (q : PT1 K W h ρ σ QB (e.bind k)) {Q' : Bool → Hp → Prop}
    (hk : ∀ a h', e = .ok a → Rel K h' ρ σ → Gr h h' → PT1 K W h' ρ σ QB (k a) → Q' a h'.H) : PT1 K W h ρ σ Q' e := by
  cases e with
  | ok a => exact fun h' R g => hk a h' rfl R g (PT1.shift g q)
  | exc c p => exact q
  | bad => exact q
/-- the value is there without a step -/
theorem PE1.now {r : Rv} {v : V} (q : PE1 K W h ρ σ Q (.ok r)) (R : Rel K h ρ σ) (ok : RvOk K h.H h v r) : Q v h.H := q v h R (Gr.refl h) ok

/-! ### new objects -/
def Hs.newV (h : Hs) (p : Addr) (o : HO) : Hs := ⟨upd h.G p o, upd h.F p o, upd h.H p o⟩
def Hs.newB (h : Hs) (p : Addr) (o : HO) : Hs := ⟨h.G, upd h.F p o, upd h.H p o⟩
def Hs.newO (h : Hs) (p : Addr) (o : HO) : Hs := ⟨h.G, h.F, upd h.H p o⟩
theorem Ch.fN (c : Ch h) {p : Addr} (n : h.H p = none) : h.F p = none := c.fh.back n
theorem Ch.gN (c : Ch h) {p : Addr} (n : h.H p = none) : h.G p = none := c.gh.back n
theorem upd_case {H : Hp} {p a : Addr} {o u : HO} (e : upd H p o a = some u) (n : H a = none) : a = p ∧ u = o := by
  by_cases z : a = p
  · subst z
    rw [upd_same] at e
    exact ⟨rfl, (Option.some.inj e).symm⟩
  · rw [upd_ne z, n] at e
    cases e
theorem Gr.newV (c : Ch h) {p : Addr} {o : HO} (n : h.H p = none) : Gr h (h.newV p o) :=
  ⟨Ex.new (c.gN n), Ex.new (c.fN n), Ex.new n, fun a u e z => by
    obtain ⟨rfl, _⟩ := upd_case e z
    exact c.fN n, fun a u e z => by
    obtain ⟨rfl, _⟩ := upd_case e z
    exact n⟩
theorem no_sm {α : Type} {x : Option α} {u : α} {P : Prop} (e : x = some u) (z : x = none) : P := by
  rw [z] at e
  cases e
theorem Gr.newB (c : Ch h) {p : Addr} {o : HO} (n : h.H p = none) : Gr h (h.newB p o) :=
  ⟨Ex.refl _, Ex.new (c.fN n), Ex.new n, fun a u e z => no_sm (show h.G a = some u from e) z, fun a u e z => by
    obtain ⟨rfl, _⟩ := upd_case e z
    exact n⟩
theorem Gr.newO (c : Ch h) {p : Addr} {o : HO} (n : h.H p = none) : Gr h (h.newO p o) :=
  ⟨Ex.refl _, Ex.refl _, Ex.new n, fun a u e z => no_sm (show h.G a = some u from e) z, fun a u e z => no_sm (show h.F a = some u from e) z⟩
theorem Ch.newV (c : Ch h) {p : Addr} {o : HO} : Ch (h.newV p o) := ⟨c.gf.both, c.fh.both⟩
theorem Ch.newB (c : Ch h) {p : Addr} {o : HO} (n : h.H p = none) : Ch (h.newB p o) := ⟨c.gf.trans (Ex.new (c.fN n)), c.fh.both⟩
theorem Ch.newO (c : Ch h) {p : Addr} {o : HO} (n : h.H p = none) : Ch (h.newO p o) := ⟨c.gf, c.fh.trans (Ex.new n)⟩
theorem Rel.newV (R : Rel K h ρ σ) {p : Addr} {o : HO} (n : h.H p = none) : Rel K (h.newV p o) ρ σ := R.grow (Gr.newV R.ch n) R.ch.newV
theorem Rel.newB (R : Rel K h ρ σ) {p : Addr} {o : HO} (n : h.H p = none) : Rel K (h.newB p o) ρ σ := R.grow (Gr.newB R.ch n) (R.ch.newB n)
theorem Rel.newO (R : Rel K h ρ σ) {p : Addr} {o : HO} (n : h.H p = none) : Rel K (h.newO p o) ρ σ := R.grow (Gr.newO R.ch n) (R.ch.newO n)
/-- an own new object is frozen -/
def Hs.fz (h : Hs) (p : Addr) (o : HO) : Hs := ⟨upd h.G p o, upd h.F p o, h.H⟩
theorem Ch.fz (c : Ch h) {p : Addr} {o : HO} (e : h.H p = some o) : Ch (h.fz p o) := ⟨c.gf.both, fun a u z => by
  by_cases q : a = p
  · subst q
    have z' : upd h.F a o a = some u := z
    rw [upd_same] at z'
    cases z'
    exact e
  · have z' : upd h.F p o a = some u := z
    rw [upd_ne q] at z'
    exact c.fh a u z'⟩
/-- .. one that was made behind h0 -/
theorem Gr.fz {h0 : Hs} (g : Gr h0 h) (c0 : Ch h0) {p : Addr} {o : HO} (n : h0.H p = none) (f : h.F p = none) (c : Ch h) : Gr h0 (h.fz p o) :=
  ⟨g.g.trans (Ex.new (c.gf.back f)), g.f.trans (Ex.new f), g.x, fun a u e z => by
    by_cases q : a = p
    · subst q
      exact c0.fN n
    · have e' : upd h.G p o a = some u := e
      rw [upd_ne q] at e'
      exact g.gn a u e' z, fun a u e z => by
    by_cases q : a = p
    · subst q
      exact n
    · have e' : upd h.F p o a = some u := e
      rw [upd_ne q] at e'
      exact g.fn a u e' z⟩
theorem Rel.fz {h0 : Hs} (R0 : Rel K h0 ρ σ) (R : Rel K h ρ σ) (g : Gr h0 h) {p : Addr} {o : HO} (n : h0.H p = none) (f : h.F p = none) (e : h.H p = some o) : Rel K (h.fz p o) ρ σ :=
  R0.grow (g.fz R0.ch n f R.ch) (R.ch.fz e)
/-- frozen -/
theorem frz_ok {h0 : Hs} (R0 : Rel K h0 ρ σ) (R : Rel K h ρ σ) (g : Gr h0 h) {v : V} : ∀ {a a' : Rv}, a.frz = .ok a' → RvOk K h0.H h v a → ∃ h', h'.H = h.H ∧ Rel K h' ρ σ ∧ Gr h0 h' ∧ RvOk K h0.H h' v a'
  | .v d, a', e, q => by cases e; exact ⟨h, rfl, R, g, q⟩
  | .b d, a', e, q => by cases e; exact ⟨h, rfl, R, g, q⟩
  | .r d, a', e, q => by cases e; exact ⟨h, rfl, R, g, q⟩
  | .w xs, a', e, q => by cases e; exact ⟨h, rfl, R, g, q.dp (r := .w xs) R.ch rfl⟩
  | .o xs, a', e, ⟨l, vs, e1, n, x, y, z⟩ => by
    cases e
    subst e1
    refine ⟨h.fz l (.lst vs), rfl, R0.fz R g n y x, g.fz R0.ch n y R.ch, ?_⟩
    exact .lst (.of upd_same) (ex_dpa (Ex.new (R.ch.gf.back y)) z)
  | .wk _, _, e, _ => by cases e
  | .ok _, _, e, _ => by cases e
  | .wt _, _, e, _ => by cases e
  | .ot _, _, e, _ => by cases e
  | .p2 _ _, _, e, _ => by cases e
end

/-! ### names, constants -/
def Sl.rd : Sl → Er Rv
  | .v d => .ok (.v d)
  | .b d => .ok (.b d)
  | .o xs => .ok (.w xs)
  | .k kvs => .ok (.wk kvs)
  | .t kvs => .ok (.wt kvs)
  | .u => .bad
  | .x _ => .bad
def slot (ρ : Env) (i : Nat) : Sl := ρ.getD i .u
def varF (i : Nat) : EF := fun ρ => (slot ρ i).rd
def cF (d : D) : EF := fun _ => .ok (.v d)
section
variable {X : Cx} {W : WF} {h : Hs} {ρ : Env} {σ : L2.St} {H : Hp} {Q : VK}
theorem slot_some {ρ : Env} {i : Nat} {s : Sl} (e : slot ρ i = s) (n : s ≠ .u) : ρ[i]? = some s := by
  unfold slot at e
  rw [List.getD_eq_getElem?_getD] at e
  cases q : ρ[i]? with
  | none =>
    rw [q] at e
    exact absurd e.symm n
  | some t =>
    rw [q] at e
    exact congrArg some e
theorem Rel.get {K : PySem.W.Frag} (R : Rel K h ρ σ) {i : Nat} {s : Sl} (e : ρ[i]? = some s) : ∃ x, σ[i]? = some x ∧ SlOk K h x s := by
  have hi : i < σ.length := by
    rw [← R.len]
    exact (List.getElem?_eq_some_iff.mp e).1
  exact ⟨σ[i], List.getElem?_eq_getElem hi, R.at_ i s _ e (List.getElem?_eq_getElem hi)⟩
theorem var_of {K : PySem.W.Frag} {i : Nat} : ∀ σ H Q, tX K W (varF i) σ H Q → tVar i σ H Q := by
  intro σ H Q q
  obtain ⟨h, ρ, rfl, R, q⟩ := tX_iff.mp q
  unfold varF at q
  cases es : slot ρ i with
  | u => rw [es] at q; exact q.elim
  | x a => rw [es] at q; exact q.elim
  | v d =>
    rw [es] at q
    obtain ⟨x, ex, v, rfl, hd⟩ := R.get (slot_some es (by intro z; cases z))
    exact ⟨v, ex, q.now R hd⟩
  | b d =>
    rw [es] at q
    obtain ⟨x, ex, v, rfl, hd⟩ := R.get (slot_some es (by intro z; cases z))
    exact ⟨v, ex, q.now R hd⟩
  | o xs =>
    rw [es] at q
    obtain ⟨x, ex, l, vs, rfl, h1, h2, h3⟩ := R.get (slot_some es (by intro z; cases z))
    exact ⟨.ref l, ex, q.now R ⟨l, vs, rfl, h1, h3⟩⟩
  | k xs =>
    rw [es] at q
    obtain ⟨x, ex, l, vs, rfl, h1, h2, h3⟩ := R.get (slot_some es (by intro z; cases z))
    exact ⟨.ref l, ex, q.now R ⟨l, vs, rfl, h1, h3⟩⟩
  | t xs =>
    rw [es] at q
    obtain ⟨x, ex, l, vs, rfl, h1, h2, h3⟩ := R.get (slot_some es (by intro z; cases z))
    exact ⟨.ref l, ex, q.now R ⟨l, vs, rfl, h1, h3⟩⟩
theorem xv (i : Nat) {x : Str} {pos : Pos} (hN : X.N[i]? = some x := by rfl) (hv : Vis X.env.scope x := by first | exact Or.inl rfl | exact Or.inr (Or.inl rfl) | exact Or.inr (Or.inr rfl)) (hd : (x == ("__debug__" : Str)) = false := by decide)
    (hcd : (x == ("__classdict__" : Str)) = false := by decide) : PE X (.Name x pos) (tX X.K W (varF i)) := peTo (pe_var hN hv hd hcd) var_of
/-- the V of a flat datum -/
def scV : D → Option V
  | .none => some .non
  | .bool b => some (.bl b)
  | .int i => some (.int i)
  | .str x => some (.str x)
  | _ => none
theorem scV_dp {K : PySem.W.Frag} {G : Hp} {d : D} {v : V} (e : scV d = some v) : Dp K G v d := by
  cases d <;> first | (cases e; done) | skip
  · cases e; exact .non
  · cases e; exact .bl _
  · cases e; exact .int _
  · cases e; exact .str _
theorem scV_un {K : PySem.W.Frag} {G : Hp} {d : D} {v w : V} (e : scV d = some v) (q : Dp K G w d) : w = v := by
  cases q <;> cases e <;> rfl
theorem c_of {K : PySem.W.Frag} {d : D} {v : V} (e : scV d = some v) : ∀ σ H Q, tX K W (cF d) σ H Q → tC v σ H Q := by
  intro σ H Q q
  obtain ⟨h, ρ, rfl, R, q⟩ := tX_iff.mp q
  exact q.now R (scV_dp (d := d) e)
theorem xint {i j pos} : PE X (.Constant (.int i) j pos) (tX X.K W (cF (.int i))) := peTo pe_int (c_of rfl)
theorem xbl {b j pos} : PE X (.Constant (.bool b) j pos) (tX X.K W (cF (.bool b))) := peTo pe_bl (c_of rfl)
theorem xnon {j pos} : PE X (.Constant .none j pos) (tX X.K W (cF .none)) := peTo pe_non (c_of rfl)
theorem xstr {x j pos} : PE X (.Constant (.str x) j pos) (tX X.K W (cF (.str x))) := peTo pe_str (c_of rfl)
/-- a module's constant -/
theorem xglob {x : Str} {d : D} {v : V} {u : Value} {pos : Pos} (hg : Gl X x) (hm : X.mg x = some u) (e : scV d = some v) (r : RelV v u) (hd : (x == ("__debug__" : Str)) = false := by decide) : PE X (.Name x pos) (tX X.K W (cF d)) := peTo (pe_glob hg hm r hd) (c_of e)

/-! ### operators on values -/
def binF (φ : Rv → Rv → Er Rv) (f g : EF) : EF := fun ρ => (f ρ).bind fun a => (g ρ).bind fun b => φ a b
/-- what a two-place operation asks -/
def OpOk (K : PySem.W.Frag) (W : WF) (φ : Rv → Rv → Er Rv) (r : R2) : Prop :=
  ∀ (h0 h : Hs) (ρ : Env) (σ : L2.St) (x y : V) (a b : Rv) (Q : VK), Rel K h0 ρ σ → Rel K h ρ σ → Gr h0 h → RvOk K h0.H h x a → RvOk K h0.H h y b → PE1 K W h ρ σ Q (φ a b) → r x y h.H Q
theorem bin_of {K : PySem.W.Frag} {φ : Rv → Rv → Er Rv} {r : R2} {f g : EF} (hr : OpOk K W φ r) : ∀ σ H Q, tX K W (binF φ f g) σ H Q → tOp r (tX K W f) (tX K W g) σ H Q := by
  intro σ H Q q
  obtain ⟨h, ρ, rfl, R, q⟩ := tX_iff.mp q
  refine tX_mk R (q.bind fun a x h1 _ R1 g1 ok1 q1 => ?_)
  refine tX_mk R1 (q1.bind fun b y h2 _ R2 g2 ok2 q2 => ?_)
  exact hr h h2 ρ σ x y a b Q R R2 (g1.trans g2) (ok1.grow g2) (ok2.old g1.x) q2
/-- two flat data give a flat datum -/
def flat2 (φ : D → D → Er D) (a b : Rv) : Er Rv := match a.dat, b.dat with
  | some x, some y => (φ x y).bind fun d => .ok (.v d)
  | _, _ => .bad
def unF (φ : Rv → Er Rv) (f : EF) : EF := fun ρ => (f ρ).bind φ
end
end Sq

/-! Operators. -/
namespace Sq
open PySem PySem.Spec PyProof.Rows L2

section
variable {K : PySem.W.Frag} {W : WF} {h : Hs} {ρ : Env} {σ : L2.St} {Q : VK}
/-- flat2, backwards -/
theorem flat2_ok {φ : D → D → Er D} {a b r : Rv} (e : flat2 φ a b = .ok r) : ∃ x y d, a.dat = some x ∧ b.dat = some y ∧ φ x y = .ok d ∧ r = .v d := by
  unfold flat2 at e
  split at e
  · rename_i x y ex ey
    cases q : φ x y with
    | ok d =>
      rw [q] at e
      cases e
      exact ⟨x, y, d, ex, ey, q, rfl⟩
    | exc c p => rw [q] at e; cases e
    | bad => rw [q] at e; cases e
  · cases e
def NoExc (φ : Rv → Rv → Er Rv) : Prop := ∀ a b c p, φ a b ≠ .exc c p
theorem PE1.split {φ : Rv → Rv → Er Rv} (ne : NoExc φ) {a b : Rv} (q : PE1 K W h ρ σ Q (φ a b)) : ∃ r, φ a b = .ok r ∧ PE1 K W h ρ σ Q (.ok r) := by
  cases e : φ a b with
  | ok r => rw [e] at q; exact ⟨r, rfl, q⟩
  | exc c p => exact absurd e (ne a b c p)
  | bad => rw [e] at q; exact q.elim
theorem flat2_ne {φ : D → D → Er D} (ne : ∀ x y c p, φ x y ≠ .exc c p) : NoExc (flat2 φ) := by
  intro a b c p e
  unfold flat2 at e
  split at e
  · rename_i x y _ _
    cases q : φ x y with
    | ok d => rw [q] at e; cases e
    | exc c p => exact ne x y c p q
    | bad => rw [q] at e; cases e
  · cases e
/-- an operation on data that gives a flat datum -/
theorem flat_ok {φ : D → D → Er D} {r : R2} (ne : ∀ x y c p, φ x y ≠ .exc c p)
    (hr : ∀ (H : Hp) (x y : V) (d e f : D) (Q : VK), Dp K H x d → Dp K H y e → φ d e = .ok f → (∀ v, scV f = some v → Q v H) → r x y H Q) (fl : ∀ d e f, φ d e = .ok f → (scV f).isSome = true) : OpOk K W (flat2 φ) r := by
  intro h0 h ρ σ x y a b Q R0 R g oka okb q
  obtain ⟨res, e, q⟩ := q.split (flat2_ne ne)
  obtain ⟨d, e', f, ha, hb, hφ, rfl⟩ := flat2_ok e
  exact hr h.H x y d e' f Q (oka.dp R.ch ha) (okb.dp R.ch hb) hφ fun v ev => q.now R (scV_dp ev)
theorem OpOk.orL {φ : Rv → Rv → Er Rv} {r r' : R2} (a : OpOk K W φ r) : OpOk K W φ (fun x y H Q => r x y H Q ∨ r' x y H Q) := fun h0 h ρ σ x y a' b' Q R0 R g o1 o2 q => .inl (a h0 h ρ σ x y a' b' Q R0 R g o1 o2 q)
/-- by cases on what the operands are -/
def alt (φ ψ : Rv → Rv → Er Rv) : Rv → Rv → Er Rv := fun a b => match φ a b with
  | .bad => ψ a b
  | r => r
theorem OpOk.alt {φ ψ : Rv → Rv → Er Rv} {r r' : R2} (a : OpOk K W φ r) (b : OpOk K W ψ r') : OpOk K W (alt φ ψ) (fun x y H Q => r x y H Q ∨ r' x y H Q) := fun h0 h ρ σ x y a' b' Q R0 R g o1 o2 q => by
  unfold Sq.alt at q
  cases e : φ a' b' with
  | ok z =>
    rw [e] at q
    exact .inl (a h0 h ρ σ x y a' b' Q R0 R g o1 o2 (by rw [e]; exact q))
  | exc c p =>
    rw [e] at q
    exact .inl (a h0 h ρ σ x y a' b' Q R0 R g o1 o2 (by rw [e]; exact q))
  | bad =>
    rw [e] at q
    exact .inr (b h0 h ρ σ x y a' b' Q R0 R g o1 o2 q)
end

/-! ### arithmetic -/
def int2 (φ : Int → Int → Er D) : D → D → Er D := fun x y => match x, y with
  | .int i, .int j => φ i j
  | _, _ => .bad
theorem int2_ok {φ : Int → Int → Er D} {x y f : D} (e : int2 φ x y = .ok f) : ∃ i j, x = .int i ∧ y = .int j ∧ φ i j = .ok f := by
  unfold int2 at e
  split at e
  · exact ⟨_, _, rfl, rfl, e⟩
  · cases e
theorem int2_ne {φ : Int → Int → Er D} (ne : ∀ i j c p, φ i j ≠ .exc c p) : ∀ x y c p, int2 φ x y ≠ .exc c p := by
  intro x y c p e
  unfold int2 at e
  split at e
  · exact ne _ _ _ _ e
  · cases e
theorem dp_int {K : PySem.W.Frag} {H : Hp} {x : V} {i : Int} (h : Dp K H x (.int i)) : x = .int i := by cases h; rfl
theorem dp_str {K : PySem.W.Frag} {H : Hp} {x : V} {i : Str} (h : Dp K H x (.str i)) : x = .str i := by cases h; rfl
theorem dp_bl {K : PySem.W.Frag} {H : Hp} {x : V} {i : Bool} (h : Dp K H x (.bool i)) : x = .bl i := by cases h; rfl
theorem int_ok {K : PySem.W.Frag} {W : WF} {φ : Int → Int → Er D} {r : R2} (ne : ∀ i j c p, φ i j ≠ .exc c p) (fl : ∀ i j f, φ i j = .ok f → (scV f).isSome = true)
    (hr : ∀ (H : Hp) (i j : Int) (f : D) (Q : VK), φ i j = .ok f → (∀ v, scV f = some v → Q v H) → r (.int i) (.int j) H Q) : OpOk K W (flat2 (int2 φ)) r := by
  refine flat_ok (int2_ne ne) (fun H x y d e f Q h1 h2 e1 q => ?_) fun d e f e1 => ?_
  · obtain ⟨i, j, rfl, rfl, e2⟩ := int2_ok e1
    rw [dp_int h1, dp_int h2]
    exact hr H i j f Q e2 q
  · obtain ⟨i, j, rfl, rfl, e2⟩ := int2_ok e1
    exact fl i j f e2
def iadd : Int → Int → Er D := fun i j => .ok (.int (i + j))
def isub : Int → Int → Er D := fun i j => .ok (.int (i - j))
def imul : Int → Int → Er D := fun i j => if (-(2 ^ 64) < i ∧ i < 2 ^ 64) ∨ (-(2 ^ 64) < j ∧ j < 2 ^ 64) ∨ i.natAbs.log2 + j.natAbs.log2 < 1000000 then .ok (.int (i * j)) else .bad
def idiv : Int → Int → Er D := fun i j => if 0 < j ∧ (j < 1073741824 ∨ j.natAbs.log2 < 9000) then .ok (.int (i / j)) else if j < 0 ∧ -1073741824 < j then .ok (.int (i.fdiv j)) else .bad
def imod : Int → Int → Er D := fun i j => if 0 < j then .ok (.int (i % j)) else if j < 0 then .ok (.int (i.fmod j)) else .bad
def ipow : Int → Int → Er D := fun i j => if 0 ≤ j ∧ j ≤ 1000 ∧ i.natAbs < 2 ^ 64 then .ok (.int (i ^ j.toNat)) else .bad
section
variable {K : PySem.W.Frag} {W : WF} {X : Cx}
theorem ok_add : OpOk K W (flat2 (int2 iadd)) (rI0 fun i j => .int (i + j)) := int_ok (fun _ _ _ _ e => nomatch e) (fun _ _ _ e => by cases e; rfl) fun H i j f Q e q => ⟨i, j, rfl, rfl, by cases e; exact q _ rfl⟩
theorem ok_sub : OpOk K W (flat2 (int2 isub)) (rI0 fun i j => .int (i - j)) := int_ok (fun _ _ _ _ e => nomatch e) (fun _ _ _ e => by cases e; rfl) fun H i j f Q e q => ⟨i, j, rfl, rfl, by cases e; exact q _ rfl⟩
def rMulA : R2 := fun x y H Q => rI CMul (fun i j => .int (i * j)) x y H Q ∨ rI CMulW (fun i j => .int (i * j)) x y H Q
theorem op_mulA : OpR X (binaryOp .Mult) rMulA := op_mul.or op_mulW
theorem ok_mul : OpOk K W (flat2 (int2 imul)) rMulA := by
  refine int_ok (fun i j c p e => ?_) (fun i j f e => ?_) fun H i j f Q e q => ?_
  · unfold imul at e; split at e <;> cases e
  · unfold imul at e; split at e <;> cases e; rfl
  · unfold imul at e
    split at e
    · rename_i hc
      cases e
      rcases hc with hc | hc | hc
      · exact .inl ⟨i, j, rfl, rfl, .inl hc, q _ rfl⟩
      · exact .inl ⟨i, j, rfl, rfl, .inr hc, q _ rfl⟩
      · exact .inr ⟨i, j, rfl, rfl, hc, q _ rfl⟩
    · cases e
def rDivA : R2 := fun x y H Q => rI CDiv (fun i j => .int (i / j)) x y H Q ∨ (rI CDivW (fun i j => .int (i / j)) x y H Q ∨ rI CDivN (fun i j => .int (i.fdiv j)) x y H Q)
theorem op_divA : OpR X (binaryOp .FloorDiv) rDivA := op_fdiv.or (op_fdivW.or op_fdivN)
theorem ok_div : OpOk K W (flat2 (int2 idiv)) rDivA := by
  refine int_ok (fun i j c p e => ?_) (fun i j f e => ?_) fun H i j f Q e q => ?_
  · unfold idiv at e; split at e; (· cases e); split at e <;> cases e
  · unfold idiv at e; split at e; (· cases e; rfl); split at e <;> cases e; rfl
  · unfold idiv at e
    split at e
    · rename_i hc
      cases e
      rcases hc with ⟨h0, hc | hc⟩
      · exact .inl ⟨i, j, rfl, rfl, ⟨h0, hc⟩, q _ rfl⟩
      · exact .inr (.inl ⟨i, j, rfl, rfl, ⟨h0, hc⟩, q _ rfl⟩)
    · split at e
      · rename_i hc
        cases e
        exact .inr (.inr ⟨i, j, rfl, rfl, ⟨by omega, by omega⟩, q _ rfl⟩)
      · cases e
def rModA : R2 := fun x y H Q => rI (fun _ j => 0 < j) (fun i j => .int (i % j)) x y H Q ∨ rI (fun _ j => j ≠ 0) (fun i j => .int (i.fmod j)) x y H Q
theorem op_modA : OpR X (binaryOp .Mod) rModA := op_mod.or op_modN
theorem ok_mod : OpOk K W (flat2 (int2 imod)) rModA := by
  refine int_ok (fun i j c p e => ?_) (fun i j f e => ?_) fun H i j f Q e q => ?_
  · unfold imod at e; split at e; (· cases e); split at e <;> cases e
  · unfold imod at e; split at e; (· cases e; rfl); split at e <;> cases e; rfl
  · unfold imod at e
    split at e
    · cases e
      exact .inl ⟨i, j, rfl, rfl, by assumption, q _ rfl⟩
    · split at e
      · cases e
        exact .inr ⟨i, j, rfl, rfl, by omega, q _ rfl⟩
      · cases e
theorem ok_pow : OpOk K W (flat2 (int2 ipow)) (rI CPow fun i j => .int (i ^ j.toNat)) := by
  refine int_ok (fun i j c p e => ?_) (fun i j f e => ?_) fun H i j f Q e q => ?_
  · unfold ipow at e; split at e <;> cases e
  · unfold ipow at e; split at e <;> cases e; rfl
  · unfold ipow at e
    split at e
    · rename_i hc
      cases e
      exact ⟨i, j, rfl, rfl, ⟨hc.1, by omega, hc.2.2⟩, q _ rfl⟩
    · cases e
/-- texts, tuples, lists put behind one another -/
def sadd : D → D → Er D := fun x y => match x, y with
  | .str a, .str b => if a.length + b.length ≤ 100000 then .ok (.str (a ++ b)) else .bad
  | _, _ => .bad
def rStrA : R2 := fun x y H Q => ∃ i j, x = .str i ∧ y = .str j ∧ i.length + j.length ≤ sizeLine ∧ Q (.str (i ++ j)) H
theorem sz100 {n : Nat} (h : n ≤ 100000) : n ≤ sizeLine := Nat.le_trans h (by decide)
theorem ok_sadd : OpOk K W (flat2 sadd) rStrA := by
  refine flat_ok (fun x y c p e => ?_) (fun H x y d e f Q h1 h2 e1 q => ?_) fun d e f e1 => ?_
  · unfold sadd at e; split at e; (· split at e <;> cases e); cases e
  · unfold sadd at e1
    split at e1
    · split at e1
      · cases e1
        exact ⟨_, _, dp_str h1, dp_str h2, sz100 (by assumption), q _ rfl⟩
      · cases e1
    · cases e1
  · unfold sadd at e1
    split at e1
    · split at e1
      · cases e1; rfl
      · cases e1
    · cases e1
/-- tuples -/
def tcat (a b : Rv) : Er Rv := match a, b with
  | .v (.tuple xs), .v (.tuple ys) => if xs ≠ [] ∧ xs.length + ys.length ≤ 100000 then .ok (.v (.tuple (xs ++ ys))) else .bad
  | _, _ => .bad
theorem dp_tup {H : Hp} {x : V} {ds : List D} (h : Dp K H x (.tuple ds)) : ∃ a vs, x = .ref a ∧ SqT K H a vs ∧ DpAll K H vs ds := by
  cases h with
  | tup h1 h2 => exact ⟨_, _, rfl, h1, h2⟩
theorem dp_lst {H : Hp} {x : V} {ds : List D} (h : Dp K H x (.list ds)) : ∃ a vs, x = .ref a ∧ SqL K H a vs ∧ DpAll K H vs ds := by
  cases h with
  | lst h1 h2 => exact ⟨_, _, rfl, h1, h2⟩
theorem ok_tcat : OpOk K W tcat (rCatT K) := by
  intro h0 h ρ σ x y a b Q R0 R g oka okb q
  unfold tcat at q
  split at q
  · rename_i xs ys
    split at q
    · rename_i hc
      obtain ⟨p1, vs, rfl, s1, d1⟩ := dp_tup oka
      obtain ⟨p2, ws, rfl, s2, d2⟩ := dp_tup okb
      refine ⟨p1, p2, vs, ws, rfl, rfl, ex_t R.ch.gh s1, ex_t R.ch.gh s2, fun z => ?_, ?_, fun z => ?_, fun z p hp => ?_⟩
      · subst z
        have := d1.len
        exact hc.1 (List.length_eq_zero_iff.mp this.symm)
      · rw [d1.len, d2.len]
        exact sz100 hc.2
      · subst z
        have e : ys = [] := List.length_eq_zero_iff.mp d2.len.symm
        subst e
        rw [List.append_nil] at q
        exact q.now R oka
      · refine q _ _ (R.newV hp) (Gr.newV R.ch hp) ?_
        exact .tup (.of upd_same) (ex_dpa (Ex.new (R.ch.gN hp)) (d1.append d2))
    · exact q.elim
  · exact q.elim
/-- lists of one's own, new ones -/
def Rv.lst : Rv → Option (List D)
  | .w xs => some xs
  | .o xs => some xs
  | _ => none
theorem RvOk.lst {H0 : Hp} {h : Hs} {v : V} : ∀ {a : Rv} {xs : List D}, a.lst = some xs → RvOk K H0 h v a → ∃ l vs, v = .ref l ∧ h.H l = some (.lst vs) ∧ DpAll K h.G vs xs
  | .w _, _, e, ⟨l, vs, e1, x, y⟩ => by cases e; exact ⟨l, vs, e1, x, y⟩
  | .o _, _, e, ⟨l, vs, e1, n, x, f, y⟩ => by cases e; exact ⟨l, vs, e1, x, y⟩
def lcat (a b : Rv) : Er Rv := match a.lst, b.lst with
  | some xs, some ys => if xs.length + ys.length ≤ 100000 then .ok (.o (xs ++ ys)) else .bad
  | _, _ => .bad
/-- a new own list -/
theorem PE1.newL {h : Hs} {ρ : Env} {σ : L2.St} {Q : VK} {xs : List D} {vs : List V} (q : PE1 K W h ρ σ Q (.ok (.o xs))) (R : Rel K h ρ σ) (d : DpAll K h.G vs xs) {p : Addr} (hp : h.H p = none) : Q (.ref p) (upd h.H p (.lst vs)) :=
  q _ _ (R.newO hp) (Gr.newO R.ch hp) ⟨p, vs, rfl, hp, upd_same, R.ch.fN hp, d⟩
theorem PE1.newT {h : Hs} {ρ : Env} {σ : L2.St} {Q : VK} {xs : List D} {vs : List V} (q : PE1 K W h ρ σ Q (.ok (.v (.tuple xs)))) (R : Rel K h ρ σ) (d : DpAll K h.G vs xs) {p : Addr} (hp : h.H p = none) : Q (.ref p) (upd h.H p (.tup vs)) :=
  q _ _ (R.newV hp) (Gr.newV R.ch hp) (.tup (.of upd_same) (ex_dpa (Ex.new (R.ch.gN hp)) d))
theorem PE1.newTB {h : Hs} {ρ : Env} {σ : L2.St} {Q : VK} {xs : List D} {vs : List V} (q : PE1 K W h ρ σ Q (.ok (.b (.tuple xs)))) (R : Rel K h ρ σ) (d : DpAll K h.F vs xs) {p : Addr} (hp : h.H p = none) : Q (.ref p) (upd h.H p (.tup vs)) :=
  q _ _ (R.newB hp) (Gr.newB R.ch hp) (.tup (.of upd_same) (ex_dpa (Ex.new (R.ch.fN hp)) d))
theorem PE1.newTR {h : Hs} {ρ : Env} {σ : L2.St} {Q : VK} {xs : List D} {vs : List V} (q : PE1 K W h ρ σ Q (.ok (.r (.tuple xs)))) (R : Rel K h ρ σ) (d : DpAll K h.H vs xs) {p : Addr} (hp : h.H p = none) : Q (.ref p) (upd h.H p (.tup vs)) :=
  q _ _ (R.newO hp) (Gr.newO R.ch hp) (.tup (.of upd_same) (ex_dpa (Ex.new hp) d))
theorem ok_lcat : OpOk K W lcat rCat := by
  intro h0 h ρ σ x y a b Q R0 R g oka okb q
  unfold lcat at q
  split at q
  · rename_i xs ys ea eb
    split at q
    · obtain ⟨l, vs, rfl, h1, d1⟩ := oka.lst ea
      obtain ⟨m, ws, rfl, h2, d2⟩ := okb.lst eb
      exact ⟨l, m, vs, ws, rfl, rfl, h1, h2, by rw [d1.len, d2.len]; exact sz100 (by assumption), fun p hp => q.newL R (d1.append d2) hp⟩
    · exact q.elim
  · exact q.elim
def addR : Rv → Rv → Er Rv := alt (flat2 (int2 iadd)) (alt (flat2 sadd) (alt tcat lcat))
def rAddA (K : PySem.W.Frag) : R2 := fun x y H Q => rI0 (fun i j => .int (i + j)) x y H Q ∨ (rStrA x y H Q ∨ (rCatT K x y H Q ∨ rCat x y H Q))
theorem op_addA : OpR X (binaryOp .Add) (rAddA X.K) := op_add.or (OpR.or op_add_str (OpR.or op_catT op_cat))
theorem ok_addA : OpOk K W addR (rAddA K) := ok_add.alt (ok_sadd.alt (ok_tcat.alt ok_lcat))

variable {a b : Expr} {f g : EF} {pos : Pos}
theorem xadd (ha : PE X a (tX X.K W f)) (hb : PE X b (tX X.K W g)) : PE X (.BinOp a .Add b pos) (tX X.K W (binF addR f g)) := peTo (pe_op op_addA ha hb) (bin_of ok_addA)
theorem xsub (ha : PE X a (tX X.K W f)) (hb : PE X b (tX X.K W g)) : PE X (.BinOp a .Sub b pos) (tX X.K W (binF (flat2 (int2 isub)) f g)) := peTo (pe_op op_sub ha hb) (bin_of ok_sub)
theorem xmul (ha : PE X a (tX X.K W f)) (hb : PE X b (tX X.K W g)) : PE X (.BinOp a .Mult b pos) (tX X.K W (binF (flat2 (int2 imul)) f g)) := peTo (pe_op op_mulA ha hb) (bin_of ok_mul)
theorem xdiv (ha : PE X a (tX X.K W f)) (hb : PE X b (tX X.K W g)) : PE X (.BinOp a .FloorDiv b pos) (tX X.K W (binF (flat2 (int2 idiv)) f g)) := peTo (pe_op op_divA ha hb) (bin_of ok_div)
theorem xmod (ha : PE X a (tX X.K W f)) (hb : PE X b (tX X.K W g)) : PE X (.BinOp a .Mod b pos) (tX X.K W (binF (flat2 (int2 imod)) f g)) := peTo (pe_op op_modA ha hb) (bin_of ok_mod)
theorem xpow (ha : PE X a (tX X.K W f)) (hb : PE X b (tX X.K W g)) : PE X (.BinOp a .Pow b pos) (tX X.K W (binF (flat2 (int2 ipow)) f g)) := peTo (pe_op op_pow ha hb) (bin_of ok_pow)
/-- -a -/
def negR (a : Rv) : Er Rv := match a.dat with
  | some (.int i) => .ok (.v (.int (-i)))
  | _ => .bad
theorem un_of {φ : Rv → Er Rv} {r : V → Hp → VK → Prop} (hr : ∀ (h0 h : Hs) (ρ : Env) (σ : L2.St) (x : V) (a : Rv) (Q : VK), Rel K h0 ρ σ → Rel K h ρ σ → Gr h0 h → RvOk K h0.H h x a → PE1 K W h ρ σ Q (φ a) → r x h.H Q) :
    ∀ σ H Q, tX K W (unF φ f) σ H Q → tUn r (tX K W f) σ H Q := by
  intro σ H Q q
  obtain ⟨h, ρ, rfl, R, q⟩ := tX_iff.mp q
  exact tX_mk R (q.bind fun a x h1 _ R1 g1 ok1 q1 => hr h h1 ρ σ x a Q R R1 g1 ok1 q1)
theorem xneg (ha : PE X a (tX X.K W f)) : PE X (.UnaryOp .USub a pos) (tX X.K W (unF negR f)) := by
  refine peTo (pe_un un_neg ha) (un_of fun h0 h ρ σ x a Q R0 R g ok q => ?_)
  unfold negR at q
  split at q
  · rename_i i e
    have e1 := dp_int (ok.dp R.ch e)
    subst e1
    exact ⟨i, rfl, q.now R (.int _)⟩
  · exact q.elim
end
end Sq

/-! Comparisons, tests, displays, subscripts. -/
namespace Sq
open PySem PySem.Spec PyProof.Rows L2

/-! ### dicts by keys -/
section
variable {κ : Type} [DecidableEq κ]
def getK (kvs : List (κ × D)) (k : κ) : Option D := (kvs.find? fun kv => decide (kv.1 = k)).map (·.2)
def setK (kvs : List (κ × D)) (k : κ) (v : D) : List (κ × D) :=
  if (kvs.any fun kv => decide (kv.1 = k)) = true then kvs.map (fun kv => if kv.1 = k then (kv.1, v) else kv) else kvs ++ [(k, v)]
theorem KvD.get {K : PySem.W.Frag} {G : Hp} {l : List (κ × V)} {m : List (κ × D)} (h : KvD K G l m) (k : κ) : (∃ v d, valV l k = some v ∧ getK m k = some d ∧ Dp K G v d) ∨ (valV l k = none ∧ getK m k = none) := by
  induction h with
  | nil => exact .inr ⟨rfl, rfl⟩
  | @cons p q l m r t ih =>
    by_cases e : p.1 = k
    · refine .inl ⟨p.2, q.2, valV_pos e, ?_, r.2⟩
      unfold getK
      rw [List.find?_cons, decide_eq_true (r.1 ▸ e)]
      rfl
    · have e2 : getK (q :: m) k = getK m k := by
        unfold getK
        rw [List.find?_cons, decide_eq_false (show ¬ q.1 = k from r.1 ▸ e)]
      rw [valV_neg e, e2]
      exact ih
theorem KvD.any {K : PySem.W.Frag} {G : Hp} {l : List (κ × V)} {m : List (κ × D)} (h : KvD K G l m) (k : κ) : (l.any fun kv => decide (kv.1 = k)) = (m.any fun kv => decide (kv.1 = k)) := by
  induction h with
  | nil => rfl
  | @cons p q l m r t ih => rw [List.any_cons, List.any_cons, ih, r.1]
theorem KvD.map {K : PySem.W.Frag} {G : Hp} {l : List (κ × V)} {m : List (κ × D)} (h : KvD K G l m) (k : κ) {v : V} {d : D} (hv : Dp K G v d) : KvD K G (l.map fun kv => if kv.1 = k then (kv.1, v) else kv) (m.map fun kv => if kv.1 = k then (kv.1, d) else kv) := by
  induction h with
  | nil => exact .nil
  | @cons p q l m r t ih =>
    refine .cons ?_ ih
    dsimp only
    by_cases e : p.1 = k
    · rw [if_pos e, if_pos (r.1 ▸ e)]
      exact ⟨r.1, hv⟩
    · rw [if_neg e, if_neg (show ¬ q.1 = k from r.1 ▸ e)]
      exact r
theorem KvD.snoc {K : PySem.W.Frag} {G : Hp} {l : List (κ × V)} {m : List (κ × D)} (h : KvD K G l m) (k : κ) {v : V} {d : D} (hv : Dp K G v d) : KvD K G (l ++ [(k, v)]) (m ++ [(k, d)]) := by
  induction h with
  | nil => exact .cons ⟨rfl, hv⟩ .nil
  | @cons p q l m r t ih => exact .cons r ih
theorem KvD.set {K : PySem.W.Frag} {G : Hp} {l : List (κ × V)} {m : List (κ × D)} (h : KvD K G l m) (k : κ) {v : V} {d : D} (hv : Dp K G v d) : KvD K G (putK l k v) (setK m k d) := by
  unfold putK setK
  rw [h.any k]
  split
  · exact h.map k hv
  · exact h.snoc k hv
theorem KvD.len {K : PySem.W.Frag} {G : Hp} {l : List (κ × V)} {m : List (κ × D)} (h : KvD K G l m) : l.length = m.length := Paired.length h
end
def keyD : D → Option Key
  | .int i => some (.inl i)
  | .str x => some (.inr x)
  | _ => none
theorem keyD_v {K : PySem.W.Frag} {H : Hp} {v : V} {d : D} {k : Key} (e : keyD d = some k) (h : Dp K H v d) : v = kV k := by
  cases h <;> cases e <;> rfl
def keysD : List D → Option (List Key)
  | [] => some []
  | d :: ds => match keyD d, keysD ds with
    | some k, some ks => some (k :: ks)
    | _, _ => none
theorem keysD_v {K : PySem.W.Frag} {H : Hp} : ∀ {ds : List D} {vs : List V} {ks : List Key}, keysD ds = some ks → DpAll K H vs ds → vs = ks.map kV
  | [], _, _, e, h => by
    cases h
    cases e
    rfl
  | d :: ds, _, ks, e, h => by
    cases h with
    | cons h t =>
      unfold keysD at e
      split at e
      · rename_i k ks' e1 e2
        cases e
        rw [keyD_v e1 h, keysD_v e2 t]
        rfl
      · cases e

section
variable {K : PySem.W.Frag} {W : WF} {X : Cx} {a b c : Expr} {f g : EF} {pos : Pos}

/-! ### comparisons -/
def ilt : Int → Int → Er D := fun i j => .ok (.bool (decide (i < j)))
def ile : Int → Int → Er D := fun i j => .ok (.bool (decide (i ≤ j)))
def igt : Int → Int → Er D := fun i j => .ok (.bool (decide (j < i)))
def ige : Int → Int → Er D := fun i j => .ok (.bool (decide (j ≤ i)))
theorem icmp_ok {p : Int → Int → Bool} : OpOk K W (flat2 (int2 fun i j => .ok (.bool (p i j)))) (rI0 fun i j => .bl (p i j)) := int_ok (fun _ _ _ _ e => nomatch e) (fun _ _ _ e => by cases e; rfl) fun H i j f Q e q => ⟨i, j, rfl, rfl, by cases e; exact q _ rfl⟩
def deq (ne : Bool) : D → D → Er D := fun x y => if SeqAt.shaped x = true ∧ SeqAt.shaped y = true then .ok (.bool (if ne then !PyData.eqv x y else PyData.eqv x y)) else .bad
theorem deq_ne {n : Bool} : ∀ x y c p, deq n x y ≠ .exc c p := by
  intro x y c p e
  unfold deq at e
  split at e <;> cases e
theorem ok_eqD : OpOk K W (flat2 (deq false)) (rEqD K) := by
  refine flat_ok deq_ne (fun H x y d e f Q h1 h2 e1 q => ?_) fun d e f e1 => ?_
  · unfold deq at e1
    split at e1
    · rename_i hc
      cases e1
      exact ⟨d, e, h1, h2, hc.1, hc.2, q _ rfl⟩
    · cases e1
  · unfold deq at e1
    split at e1
    · cases e1; rfl
    · cases e1
theorem ok_neD : OpOk K W (flat2 (deq true)) (rNeD K) := by
  refine flat_ok deq_ne (fun H x y d e f Q h1 h2 e1 q => ?_) fun d e f e1 => ?_
  · unfold deq at e1
    split at e1
    · rename_i hc
      cases e1
      exact ⟨d, e, h1, h2, hc.1, hc.2, q _ rfl⟩
    · cases e1
  · unfold deq at e1
    split at e1
    · cases e1; rfl
    · cases e1
/-- x is None; True is False .. -/
def dis (n : Bool) : D → D → Er D := fun x y => match x, y with
  | .none, .none => .ok (.bool (!n))
  | .bool i, .bool j => .ok (.bool (if n then !decide (i = j) else decide (i = j)))
  | .bool _, .none => .ok (.bool n)
  | .int _, .none => .ok (.bool n)
  | .str _, .none => .ok (.bool n)
  | .list _, .none => .ok (.bool n)
  | .tuple _, .none => .ok (.bool n)
  | _, _ => .bad
theorem dis_ne {n : Bool} : ∀ x y c p, dis n x y ≠ .exc c p := by
  intro x y c p e
  unfold dis at e
  split at e <;> cases e
def rIsA : R2 := fun x y H Q => (y = .non ∧ Q (.bl (decide (x = .non))) H) ∨ rIsB x y H Q
def rNotA : R2 := fun x y H Q => (y = .non ∧ Q (.bl (!decide (x = .non))) H) ∨ rNotB x y H Q
theorem op_isA : OpR X (compareOp .Is) rIsA := op_isN.or op_isBl
theorem op_notA : OpR X (compareOp .IsNot) rNotA := op_notN.or op_notBl
theorem ok_is : OpOk K W (flat2 (dis false)) rIsA := by
  refine flat_ok dis_ne (fun H x y d e f Q h1 h2 e1 q => ?_) fun d e f e1 => ?_
  · unfold dis at e1
    split at e1 <;> first | (cases e1; done) | skip
    · cases e1; cases h1; cases h2; exact .inl ⟨rfl, q _ rfl⟩
    · cases e1; cases h1; cases h2; exact .inr ⟨_, _, rfl, rfl, q _ rfl⟩
    all_goals (cases e1; cases h1; cases h2; exact .inl ⟨rfl, q _ rfl⟩)
  · unfold dis at e1
    split at e1 <;> cases e1 <;> rfl
theorem ok_not : OpOk K W (flat2 (dis true)) rNotA := by
  refine flat_ok dis_ne (fun H x y d e f Q h1 h2 e1 q => ?_) fun d e f e1 => ?_
  · unfold dis at e1
    split at e1 <;> first | (cases e1; done) | skip
    · cases e1; cases h1; cases h2; exact .inl ⟨rfl, q _ rfl⟩
    · cases e1; cases h1; cases h2; exact .inr ⟨_, _, rfl, rfl, q _ rfl⟩
    all_goals (cases e1; cases h1; cases h2; exact .inl ⟨rfl, q _ rfl⟩)
  · unfold dis at e1
    split at e1 <;> cases e1 <;> rfl
/-- a bool as a test -/
def Rv.tst : Rv → Er Bool
  | .v (.bool k) => .ok k
  | .b (.bool k) => .ok k
  | .r (.bool k) => .ok k
  | _ => .bad
def tstF (f : EF) : Env → Er Bool := fun ρ => (f ρ).bind Rv.tst
theorem RvOk.tst {H0 : Hp} {h : Hs} {v : V} {a : Rv} {k : Bool} (ok : RvOk K H0 h v a) (e : a.tst = .ok k) : v = .bl k := by
  unfold Rv.tst at e
  split at e
  · cases e; exact dp_bl ok
  · cases e; exact dp_bl ok
  · cases e; exact dp_bl ok
  · cases e
theorem Rv.tst_ne {a : Rv} {c : Str} {p : Option (Str × D)} : a.tst ≠ .exc c p := by
  intro e
  unfold Rv.tst at e
  split at e <;> cases e
theorem tst_now {h : Hs} {ρ : Env} {σ : L2.St} {Q : Bool → Hp → Prop} {H0 : Hp} {v : V} {a : Rv} (q : PT1 K W h ρ σ Q a.tst) (R : Rel K h ρ σ) (ok : RvOk K H0 h v a) : ∃ k, v = .bl k ∧ Q k h.H := by
  cases e : a.tst with
  | ok k =>
    rw [e] at q
    exact ⟨k, ok.tst e, q h R (Gr.refl h)⟩
  | exc c p => exact absurd e Rv.tst_ne
  | bad => rw [e] at q; exact q.elim
theorem tst_of : ∀ σ H Q, tXt K W (tstF f) σ H Q → tTest (tX K W f) σ H Q := by
  intro σ H Q q
  obtain ⟨h, ρ, rfl, R, q⟩ := tXt_iff.mp q
  exact tX_mk R (PE1.bindT q fun a v h1 _ R1 g1 ok1 q1 => tst_now q1 R1 ok1)
theorem tTest_mono {t t' : TE} (i : ∀ σ H Q, t' σ H Q → t σ H Q) : ∀ σ H Q, tTest t' σ H Q → tTest t σ H Q := fun σ H Q q => i σ H _ q
section
variable {op : CmpOp} {r : R2} {φ : Rv → Rv → Er Rv}
theorem xcmp (ho : OpR X (compareOp op) r) (hφ : OpOk X.K W φ r) (ha : PE X a (tX X.K W f)) (hb : PE X b (tX X.K W g)) (hm : behindInMarks op b = false) : PE X (.Compare a [op] [b] pos) (tX X.K W (binF φ f g)) := peTo (pe_cmpR ho ha hb hm) (bin_of hφ)
theorem xtcmp (ho : OpR X (compareOp op) r) (hφ : OpOk X.K W φ r) (ha : PE X a (tX X.K W f)) (hb : PE X b (tX X.K W g)) (hm : behindInMarks op b = false) : PT X (.Compare a [op] [b] pos) (tXt X.K W (tstF (binF φ f g))) :=
  ptTo (pt_cmpR ho ha hb hm) fun σ H Q q => tTest_mono (bin_of hφ) σ H Q (tst_of σ H Q q)
end
abbrev ltR := flat2 (int2 ilt)
abbrev leR := flat2 (int2 ile)
abbrev gtR := flat2 (int2 igt)
abbrev geR := flat2 (int2 ige)
abbrev eqR := flat2 (deq false)
abbrev neR := flat2 (deq true)
abbrev isR := flat2 (dis false)
abbrev notR := flat2 (dis true)
theorem xlt (ha : PE X a (tX X.K W f)) (hb : PE X b (tX X.K W g)) : PE X (.Compare a [.Lt] [b] pos) (tX X.K W (binF ltR f g)) := xcmp op_lt icmp_ok ha hb (nomark _)
theorem xle (ha : PE X a (tX X.K W f)) (hb : PE X b (tX X.K W g)) : PE X (.Compare a [.LtE] [b] pos) (tX X.K W (binF leR f g)) := xcmp op_le icmp_ok ha hb (nomark _)
theorem xgt (ha : PE X a (tX X.K W f)) (hb : PE X b (tX X.K W g)) : PE X (.Compare a [.Gt] [b] pos) (tX X.K W (binF gtR f g)) := xcmp op_gt icmp_ok ha hb (nomark _)
theorem xge (ha : PE X a (tX X.K W f)) (hb : PE X b (tX X.K W g)) : PE X (.Compare a [.GtE] [b] pos) (tX X.K W (binF geR f g)) := xcmp op_ge icmp_ok ha hb (nomark _)
theorem xeq (hu : X.A.units + 64 < cLine) (ha : PE X a (tX X.K W f)) (hb : PE X b (tX X.K W g)) : PE X (.Compare a [.Eq] [b] pos) (tX X.K W (binF eqR f g)) := xcmp (op_eqD hu) ok_eqD ha hb (nomark _)
theorem xne (hu : X.A.units + 64 < cLine) (ha : PE X a (tX X.K W f)) (hb : PE X b (tX X.K W g)) : PE X (.Compare a [.NotEq] [b] pos) (tX X.K W (binF neR f g)) := xcmp (op_neD hu) ok_neD ha hb (nomark _)
theorem xis (ha : PE X a (tX X.K W f)) (hb : PE X b (tX X.K W g)) : PE X (.Compare a [.Is] [b] pos) (tX X.K W (binF isR f g)) := xcmp op_isA ok_is ha hb (nomark _)
theorem xisnot (ha : PE X a (tX X.K W f)) (hb : PE X b (tX X.K W g)) : PE X (.Compare a [.IsNot] [b] pos) (tX X.K W (binF notR f g)) := xcmp op_notA ok_not ha hb (nomark _)
theorem xtlt (ha : PE X a (tX X.K W f)) (hb : PE X b (tX X.K W g)) : PT X (.Compare a [.Lt] [b] pos) (tXt X.K W (tstF (binF ltR f g))) := xtcmp op_lt icmp_ok ha hb (nomark _)
theorem xtle (ha : PE X a (tX X.K W f)) (hb : PE X b (tX X.K W g)) : PT X (.Compare a [.LtE] [b] pos) (tXt X.K W (tstF (binF leR f g))) := xtcmp op_le icmp_ok ha hb (nomark _)
theorem xtgt (ha : PE X a (tX X.K W f)) (hb : PE X b (tX X.K W g)) : PT X (.Compare a [.Gt] [b] pos) (tXt X.K W (tstF (binF gtR f g))) := xtcmp op_gt icmp_ok ha hb (nomark _)
theorem xtge (ha : PE X a (tX X.K W f)) (hb : PE X b (tX X.K W g)) : PT X (.Compare a [.GtE] [b] pos) (tXt X.K W (tstF (binF geR f g))) := xtcmp op_ge icmp_ok ha hb (nomark _)
theorem xteq (hu : X.A.units + 64 < cLine) (ha : PE X a (tX X.K W f)) (hb : PE X b (tX X.K W g)) : PT X (.Compare a [.Eq] [b] pos) (tXt X.K W (tstF (binF eqR f g))) := xtcmp (op_eqD hu) ok_eqD ha hb (nomark _)
theorem xtne (hu : X.A.units + 64 < cLine) (ha : PE X a (tX X.K W f)) (hb : PE X b (tX X.K W g)) : PT X (.Compare a [.NotEq] [b] pos) (tXt X.K W (tstF (binF neR f g))) := xtcmp (op_neD hu) ok_neD ha hb (nomark _)
theorem xtis (ha : PE X a (tX X.K W f)) (hb : PE X b (tX X.K W g)) : PT X (.Compare a [.Is] [b] pos) (tXt X.K W (tstF (binF isR f g))) := xtcmp op_isA ok_is ha hb (nomark _)
theorem xtisnot (ha : PE X a (tX X.K W f)) (hb : PE X b (tX X.K W g)) : PT X (.Compare a [.IsNot] [b] pos) (tXt X.K W (tstF (binF notR f g))) := xtcmp op_notA ok_not ha hb (nomark _)

/-! ### in -/
def flatD : D → Bool
  | .none => true
  | .bool _ => true
  | .int _ => true
  | .str _ => true
  | _ => false
theorem dp_flat {H : Hp} {v : V} {d : D} (h : Dp K H v d) (e : flatD d = true) : flatV v = true := by cases h <;> first | rfl | cases e
theorem dp_flats {H : Hp} : ∀ {vs : List V} {ds : List D}, DpAll K H vs ds → ds.all flatD = true → vs.all flatV = true
  | _, _, .nil, _ => rfl
  | _, _, .cons h t, e => by
    rw [List.all_cons, Bool.and_eq_true] at e
    rw [List.all_cons, dp_flat h e.1, dp_flats t e.2]
    rfl
theorem dp_eqV {H : Hp} {v w : V} {d e : D} (h1 : Dp K H v d) (h2 : Dp K H w e) (f1 : flatD d = true) (f2 : flatD e = true) : eqV v w = PyData.eqv d e := by
  cases h1 <;> first | (cases f1; done) | (cases h2 <;> first | (cases f2; done) | rfl)
theorem dp_inV {H : Hp} {x : V} {e : D} (hx : Dp K H x e) (fx : flatD e = true) : ∀ {vs : List V} {ds : List D}, DpAll K H vs ds → ds.all flatD = true → inV x vs = ds.any fun z => PyData.eqv z e
  | _, _, .nil, _ => rfl
  | _, _, .cons h t, f => by
    rw [List.all_cons, Bool.and_eq_true] at f
    have ih := dp_inV hx fx t f.2
    unfold inV at ih ⊢
    rw [List.any_cons, List.any_cons, ih, dp_eqV h hx f.1 fx]
def Rv.seq (a : Rv) : Option (List D) := match a.dat with
  | some (.list xs) => some xs
  | some (.tuple xs) => some xs
  | _ => none
theorem RvOk.seq {H0 : Hp} {h : Hs} {v : V} {a : Rv} {xs : List D} (c : Ch h) (ok : RvOk K H0 h v a) (e : a.seq = some xs) : ∃ p vs, v = .ref p ∧ (SqL K h.H p vs ∨ SqT K h.H p vs) ∧ DpAll K h.H vs xs := by
  unfold Rv.seq at e
  split at e
  · rename_i ys e1
    cases e
    obtain ⟨p, vs, rfl, s, d⟩ := dp_lst (ok.dp c e1)
    exact ⟨p, vs, rfl, .inl s, d⟩
  · rename_i ys e1
    cases e
    obtain ⟨p, vs, rfl, s, d⟩ := dp_tup (ok.dp c e1)
    exact ⟨p, vs, rfl, .inr s, d⟩
  · cases e
def inSeq (n : Bool) (a b : Rv) : Er Rv := match a.dat, b.seq with
  | some x, some ys => if flatD x = true ∧ ys.all flatD = true then .ok (.v (.bool (if n then !(ys.any fun z => PyData.eqv z x) else ys.any fun z => PyData.eqv z x))) else .bad
  | _, _ => .bad
theorem ok_inSeq {n : Bool} : OpOk K W (inSeq n) (rIn K n) := by
  intro h0 h ρ σ x y a b Q R0 R g oka okb q
  unfold inSeq at q
  split at q
  · rename_i d ys ea eb
    split at q
    · rename_i hc
      obtain ⟨p, vs, rfl, s, da⟩ := okb.seq R.ch eb
      have hx := oka.dp R.ch ea
      refine ⟨p, vs, rfl, s, dp_flat hx hc.1, dp_flats da hc.2, ?_⟩
      rw [dp_inV hx hc.1 da hc.2]
      exact q.now R (.bl _)
    · exact q.elim
  · exact q.elim
def inStr (n : Bool) : D → D → Er D := fun x y => match x, y with
  | .str i, .str j => .ok (.bool (if n then !(!(Builtin.Str.occurrences j i 0 j.length 1).isEmpty) else !(Builtin.Str.occurrences j i 0 j.length 1).isEmpty))
  | _, _ => .bad
def rInStr (n : Bool) : R2 := fun x y H Q => ∃ i j, x = .str i ∧ y = .str j ∧ Q (.bl (if n then !(!(Builtin.Str.occurrences j i 0 j.length 1).isEmpty) else !(Builtin.Str.occurrences j i 0 j.length 1).isEmpty)) H
theorem ok_inStr {n : Bool} : OpOk K W (flat2 (inStr n)) (rInStr n) := by
  refine flat_ok (fun x y c p e => ?_) (fun H x y d e f Q h1 h2 e1 q => ?_) fun d e f e1 => ?_
  · unfold inStr at e; split at e <;> cases e
  · unfold inStr at e1
    split at e1
    · cases e1; exact ⟨_, _, dp_str h1, dp_str h2, q _ rfl⟩
    · cases e1
  · unfold inStr at e1
    split at e1
    · cases e1; rfl
    · cases e1
/-- a key is asked of an own dict -/
def inDic (n : Bool) (a b : Rv) : Er Rv := match b with
  | .wk kvs => match a.dat.bind keyD with
    | some k => .ok (.v (.bool (if n then !(getK kvs k).isSome else (getK kvs k).isSome)))
    | none => .bad
  | _ => .bad
/-- what stands at a key -/
theorem dget_ok {h : Hs} {H0 : Hp} {x y : V} {a : Rv} {kvs : List (Key × D)} {k : Key} (c : Ch h) (e : a.dat.bind keyD = some k) (oka : RvOk K H0 h y a) (okb : RvOk K H0 h x (.wk kvs)) :
    ∃ p o, x = .ref p ∧ DGet h.H p y o ∧ ((∃ v d, o = some v ∧ getK kvs k = some d ∧ Dp K h.G v d) ∨ (o = none ∧ getK kvs k = none)) := by
  obtain ⟨d, e1, e2⟩ := Option.bind_eq_some_iff.mp e
  have ey := keyD_v e2 (oka.dp c e1)
  subst ey
  obtain ⟨l, vs, rfl, hl, kd⟩ := okb
  refine ⟨l, valV vs k, rfl, DGet.k hl, ?_⟩
  rcases kd.get k with ⟨v, d, e3, e4, e5⟩ | ⟨e3, e4⟩
  · exact .inl ⟨v, d, e3, e4, e5⟩
  · exact .inr ⟨e3, e4⟩
theorem xin_of {n : Bool} : ∀ σ H Q, tX K W (binF (alt (inDic n) (alt (inSeq n) (flat2 (inStr n)))) f g) σ H Q →
    (fun σ H Q => tX K W f σ H fun y H1 => tX K W g σ H1 fun x H2 => ∃ a o, x = .ref a ∧ DGet H2 a y o ∧ Q (.bl (if n then !o.isSome else o.isSome)) H2) σ H Q ∨
    tOp (fun x y H Q => rIn K n x y H Q ∨ rInStr n x y H Q) (tX K W f) (tX K W g) σ H Q := by
  intro σ H Q q
  have q0 := q
  obtain ⟨h, ρ, rfl, R, q⟩ := tX_iff.mp q
  -- is the second one a dict
  have e0 : (∀ a, f ρ = .ok a → ∀ kvs, g ρ = .ok (.wk kvs) → inDic n a (.wk kvs) = .bad) ∨ ∃ a kvs, f ρ = .ok a ∧ g ρ = .ok (.wk kvs) ∧ inDic n a (.wk kvs) ≠ .bad := by
    by_cases z : ∃ a kvs, f ρ = .ok a ∧ g ρ = .ok (.wk kvs) ∧ inDic n a (.wk kvs) ≠ .bad
    · exact .inr z
    · exact .inl fun a ea kvs eg => Classical.byContradiction fun y => z ⟨a, kvs, ea, eg, y⟩
  rcases e0 with e0 | ⟨a, kvs, ea, eg, e0⟩
  · refine .inr (tX_mk R (q.bind fun a y h1 ea R1 g1 ok1 q1 => tX_mk R1 (q1.bind fun b x h2 eb R2 g2 ok2 q2 => ?_)))
    have e1 : inDic n a b = .bad := by
      cases b with
      | wk kvs => exact e0 a ea kvs eb
      | _ => rfl
    have e2 : alt (inDic n) (alt (inSeq n) (flat2 (inStr n))) a b = alt (inSeq n) (flat2 (inStr n)) a b := by
      unfold Sq.alt
      rw [e1]
    rw [e2] at q2
    exact (ok_inSeq.alt ok_inStr) h h2 ρ σ y x a b Q R R2 (g1.trans g2) (ok1.grow g2) (ok2.old g1.x) q2
  · refine .inl (tX_mk R (q.bind fun a' y h1 ea' R1 g1 ok1 q1 => tX_mk R1 (q1.bind fun b x h2 eb R2 g2 ok2 q2 => ?_)))
    rw [ea] at ea'
    cases ea'
    rw [eg] at eb
    cases eb
    have e2 : alt (inDic n) (alt (inSeq n) (flat2 (inStr n))) a (.wk kvs) = inDic n a (.wk kvs) := by
      unfold Sq.alt
      cases q : inDic n a (.wk kvs) with
      | bad => exact absurd q e0
      | ok _ => rfl
      | exc _ _ => rfl
    rw [e2] at q2
    cases ek : a.dat.bind keyD with
    | none =>
      unfold inDic at e0
      rw [ek] at e0
      exact absurd rfl e0
    | some k =>
      obtain ⟨p, o, ex, dg, ho⟩ := dget_ok R2.ch ek (ok1.grow g2) ok2
      refine ⟨p, o, ex, dg, ?_⟩
      unfold inDic at q2
      dsimp only at q2
      rw [ek] at q2
      have eo : o.isSome = (getK kvs k).isSome := by
        rcases ho with ⟨v, d, e3, e4, _⟩ | ⟨e3, e4⟩
        · rw [e3, e4]; rfl
        · rw [e3, e4]; rfl
      rw [eo]
      exact q2.now R2 (.bl _)
abbrev inR (n : Bool) := alt (inDic n) (alt (inSeq n) (flat2 (inStr n)))
theorem xin (hu : X.A.units + 1 < cLine) (ha : PE X a (tX X.K W f)) (hb : PE X b (tX X.K W g)) (hm : behindInMarks .In b = false := by first | exact nobehind _ (by decide) (by decide) | rfl) : PE X (.Compare a [.In] [b] pos) (tX X.K W (binF (inR false) f g)) :=
  peTo (peOr (pe_cmp (pc_din hu ha hb) hm) (pe_cmpR (op_in_seq.or op_in_str) ha hb hm)) xin_of
theorem xnotin (hu : X.A.units + 1 < cLine) (ha : PE X a (tX X.K W f)) (hb : PE X b (tX X.K W g)) (hm : behindInMarks .NotIn b = false := by first | exact nobehind _ (by decide) (by decide) | rfl) : PE X (.Compare a [.NotIn] [b] pos) (tX X.K W (binF (inR true) f g)) :=
  peTo (peOr (pe_cmp (pc_dnotin hu ha hb) hm) (pe_cmpR (op_notIn_seq.or op_notIn_str) ha hb hm)) xin_of
theorem xtin (hu : X.A.units + 1 < cLine) (ha : PE X a (tX X.K W f)) (hb : PE X b (tX X.K W g)) (hm : behindInMarks .In b = false := by first | exact nobehind _ (by decide) (by decide) | rfl) : PT X (.Compare a [.In] [b] pos) (tXt X.K W (tstF (binF (inR false) f g))) :=
  ptTo (ptOr (pt_cmp (pc_din hu ha hb) hm) (pt_cmpR (op_in_seq.or op_in_str) ha hb hm)) fun σ H Q q => xin_of (n := false) σ H _ (tst_of σ H Q q)
theorem xtnotin (hu : X.A.units + 1 < cLine) (ha : PE X a (tX X.K W f)) (hb : PE X b (tX X.K W g)) (hm : behindInMarks .NotIn b = false := by first | exact nobehind _ (by decide) (by decide) | rfl) : PT X (.Compare a [.NotIn] [b] pos) (tXt X.K W (tstF (binF (inR true) f g))) :=
  ptTo (ptOr (pt_cmp (pc_dnotin hu ha hb) hm) (pt_cmpR (op_notIn_seq.or op_notIn_str) ha hb hm)) fun σ H Q q => xin_of (n := true) σ H _ (tst_of σ H Q q)
end
end Sq

/-! and, or, not, if; displays; subscripts. -/
namespace Sq
open PySem PySem.Spec PyProof.Rows L2
section
variable {K : PySem.W.Frag} {W : WF} {X : Cx} {a b c : Expr} {f g k : EF} {t u : Env → Er Bool} {pos : Pos} {rest : List Expr}

def andF (f g : EF) : EF := fun ρ => (f ρ).bind fun a => a.tst.bind fun k => if k = true then g ρ else .ok (.v (.bool false))
def orF (f g : EF) : EF := fun ρ => (f ρ).bind fun a => a.tst.bind fun k => if k = true then .ok (.v (.bool true)) else g ρ
def notF (f : EF) : EF := fun ρ => (f ρ).bind fun a => a.tst.bind fun k => .ok (.v (.bool (!k)))
theorem tst_nowE {h : Hs} {ρ : Env} {σ : L2.St} {Q : VK} {H0 : Hp} {v : V} {a : Rv} {k : Bool → Er Rv} (q : PE1 K W h ρ σ Q (a.tst.bind k)) (ok : RvOk K H0 h v a) : ∃ c, v = .bl c ∧ PE1 K W h ρ σ Q (k c) := by
  cases e : a.tst with
  | ok c =>
    rw [e] at q
    exact ⟨c, ok.tst e, q⟩
  | exc c p => exact absurd e Rv.tst_ne
  | bad => rw [e] at q; exact q.elim
theorem xand (ha : PE X a (tX X.K W f)) (hb : PE X (.BoolOp .And (b :: rest) pos) (tX X.K W g)) : PE X (.BoolOp .And (a :: b :: rest) pos) (tX X.K W (andF f g)) := by
  refine peTo (pe_and ha hb) fun σ H Q q => ?_
  obtain ⟨h, ρ, rfl, R, q⟩ := tX_iff.mp q
  refine tX_mk R (q.bind fun a v h1 _ R1 g1 ok1 q1 => ?_)
  obtain ⟨c, ev, q2⟩ := tst_nowE q1 ok1
  refine ⟨c, ev, ?_⟩
  cases c with
  | true => exact tX_mk R1 q2
  | false => exact q2.now R1 (.bl _)
theorem xor (ha : PE X a (tX X.K W f)) (hb : PE X (.BoolOp .Or (b :: rest) pos) (tX X.K W g)) : PE X (.BoolOp .Or (a :: b :: rest) pos) (tX X.K W (orF f g)) := by
  refine peTo (pe_or ha hb) fun σ H Q q => ?_
  obtain ⟨h, ρ, rfl, R, q⟩ := tX_iff.mp q
  refine tX_mk R (q.bind fun a v h1 _ R1 g1 ok1 q1 => ?_)
  obtain ⟨c, ev, q2⟩ := tst_nowE q1 ok1
  refine ⟨c, ev, ?_⟩
  cases c with
  | true => exact q2.now R1 (.bl _)
  | false => exact tX_mk R1 q2
theorem xone {op} (ha : PE X a (tX X.K W f)) : PE X (.BoolOp op [a] pos) (tX X.K W f) := pe_one ha
theorem xnot (ha : PE X a (tX X.K W f)) : PE X (.UnaryOp .Not a pos) (tX X.K W (notF f)) := by
  refine peTo (pe_not ha) fun σ H Q q => ?_
  obtain ⟨h, ρ, rfl, R, q⟩ := tX_iff.mp q
  refine tX_mk R (q.bind fun a v h1 _ R1 g1 ok1 q1 => ?_)
  obtain ⟨c, ev, q2⟩ := tst_nowE q1 ok1
  exact ⟨c, ev, q2.now R1 (.bl _)⟩
/-! tests -/
theorem xtval {e : Expr} (h : PE X e (tX X.K W f)) (he : ∀ whole, isTrue e X.env whole = (do let v ← whole; standAt e.pos; holding [v] (truthy v)) := by intro _; rfl) : PT X e (tXt X.K W (tstF f)) := ptTo (pt_val h he) tst_of
def andT (t u : Env → Er Bool) : Env → Er Bool := fun ρ => (t ρ).bind fun k => if k = true then u ρ else .ok false
def orT (t u : Env → Er Bool) : Env → Er Bool := fun ρ => (t ρ).bind fun k => if k = true then .ok true else u ρ
def notT (t : Env → Er Bool) : Env → Er Bool := fun ρ => (t ρ).bind fun k => .ok (!k)
theorem xwand1 (ha : PT X a (tXt X.K W t)) : PW X (.BoolOp .And [a] pos) (tXt X.K W t) := pw_and1 ha
theorem xwor1 (ha : PT X a (tXt X.K W t)) : PW X (.BoolOp .Or [a] pos) (tXt X.K W t) := pw_or1 ha
theorem xwand (ha : PT X a (tXt X.K W t)) (hb : PW X (.BoolOp .And (b :: rest) pos) (tXt X.K W u)) : PW X (.BoolOp .And (a :: b :: rest) pos) (tXt X.K W (andT t u)) := by
  refine pwTo (pw_and ha hb) fun σ H Q q => ?_
  obtain ⟨h, ρ, rfl, R, q⟩ := tXt_iff.mp q
  refine tXt_mk R (q.bindT fun k h1 _ R1 g1 q1 => ?_)
  cases k with
  | true => exact tXt_mk R1 q1
  | false => exact q1 h1 R1 (Gr.refl _)
theorem xwor (ha : PT X a (tXt X.K W t)) (hb : PW X (.BoolOp .Or (b :: rest) pos) (tXt X.K W u)) : PW X (.BoolOp .Or (a :: b :: rest) pos) (tXt X.K W (orT t u)) := by
  refine pwTo (pw_or ha hb) fun σ H Q q => ?_
  obtain ⟨h, ρ, rfl, R, q⟩ := tXt_iff.mp q
  refine tXt_mk R (q.bindT fun k h1 _ R1 g1 q1 => ?_)
  cases k with
  | true => exact q1 h1 R1 (Gr.refl _)
  | false => exact tXt_mk R1 q1
theorem xtnot (ha : PT X a (tXt X.K W t)) : PT X (.UnaryOp .Not a pos) (tXt X.K W (notT t)) := by
  refine ptTo (pt_not ha) fun σ H Q q => ?_
  obtain ⟨h, ρ, rfl, R, q⟩ := tXt_iff.mp q
  exact tXt_mk R (q.bindT fun k h1 _ R1 g1 q1 => q1 h1 R1 (Gr.refl _))
/-- truth of data -/
def Rv.tru (a : Rv) : Er Bool := match a.dat with
  | some .none => .ok false
  | some (.bool k) => .ok k
  | some (.int i) => .ok (i != 0)
  | some (.str s) => if s.length ≤ 100000 then .ok (s.length != 0) else .bad
  | some (.list xs) => .ok (!xs.isEmpty)
  | some (.tuple xs) => .ok (!xs.isEmpty)
  | _ => .bad
def ifF (t : Env → Er Bool) (f g : EF) : EF := fun ρ => (t ρ).bind fun k => if k = true then f ρ else g ρ
theorem xif (hc : PT X c (tXt X.K W t)) (ha : PE X a (tX X.K W f)) (hb : PE X b (tX X.K W g)) : PE X (.IfExp c a b pos) (tX X.K W (ifF t f g)) := by
  refine peTo (pe_ifExp hc ha hb) fun σ H Q q => ?_
  obtain ⟨h, ρ, rfl, R, q⟩ := tX_iff.mp q
  refine tXt_mk R (PT1.bind q fun k h1 _ R1 g1 q1 => ?_)
  cases k with
  | true => exact tX_mk R1 q1
  | false => exact tX_mk R1 q1

/-! ### several expressions, each frozen -/
def RvF (K : PySem.W.Frag) (h : Hs) (v : V) : Rv → Prop
  | .v d => Dp K h.G v d
  | .b d => Dp K h.F v d
  | .r d => Dp K h.H v d
  | _ => False
theorem RvF.grow {h h' : Hs} {v : V} (g : Gr h h') : ∀ {r : Rv}, RvF K h v r → RvF K h' v r
  | .v d, q => ex_dp g.g q
  | .b d, q => ex_dp g.f q
  | .r d, q => ex_dp g.x q
  | .w _, q => q
  | .o _, q => q
  | .wk _, q => q
  | .ok _, q => q
  | .wt _, q => q
  | .ot _, q => q
  | .p2 _ _, q => q
theorem RvF.of {H0 : Hp} {h : Hs} {v : V} {a a' : Rv} (e : a.frz = .ok a') (ok : RvOk K H0 h v a') : RvF K h v a' := by
  cases a <;> cases e <;> exact ok
theorem RvF.dp {h : Hs} {v : V} {r : Rv} (c : Ch h) (q : RvF K h v r) : ∃ d, r.dat = some d ∧ Dp K h.H v d := by
  cases r with
  | v d => exact ⟨d, rfl, ex_dp c.gh q⟩
  | b d => exact ⟨d, rfl, ex_dp c.fh q⟩
  | r d => exact ⟨d, rfl, q⟩
  | _ => exact q.elim
def RvsOk (K : PySem.W.Frag) (h : Hs) : List V → List Rv → Prop
  | [], [] => True
  | v :: vs, r :: rs => RvF K h v r ∧ RvsOk K h vs rs
  | _, _ => False
theorem RvsOk.grow {h h' : Hs} (g : Gr h h') : ∀ {vs : List V} {rs : List Rv}, RvsOk K h vs rs → RvsOk K h' vs rs
  | [], [], _ => trivial
  | _ :: _, _ :: _, ⟨a, b⟩ => ⟨a.grow g, b.grow g⟩
  | [], _ :: _, q => q
  | _ :: _, [], q => q
theorem RvsOk.len {h : Hs} : ∀ {vs : List V} {rs : List Rv}, RvsOk K h vs rs → vs.length = rs.length
  | [], [], _ => rfl
  | _ :: _, _ :: _, ⟨a, b⟩ => congrArg (· + 1) b.len
  | [], _ :: _, q => q.elim
  | _ :: _, [], q => q.elim
abbrev AF := Env → Er (List Rv)
def aNil : AF := fun _ => .ok []
def aCons (f : EF) (r : AF) : AF := fun ρ => (f ρ).bind fun a => a.frz.bind fun a' => (r ρ).bind fun as => .ok (a' :: as)
def PA1 (K : PySem.W.Frag) (W : WF) (h : Hs) (ρ : Env) (σ : L2.St) (Q : List V → Hp → Prop) : Er (List Rv) → Prop
  | .ok rs => ∀ vs h', Rel K h' ρ σ → Gr h h' → RvsOk K h' vs rs → Q vs h'.H
  | .exc c p => ∀ h', Rel K h' ρ σ → Gr h h' → W c p σ h'
  | .bad => False
def tXa (K : PySem.W.Frag) (W : WF) (f : AF) : TA := fun σ H Q => ∃ h ρ, h.H = H ∧ Rel K h ρ σ ∧ PA1 K W h ρ σ Q (f ρ)
theorem PA1.shift {h h1 : Hs} {ρ : Env} {σ : L2.St} {Q : List V → Hp → Prop} (g : Gr h h1) : ∀ {e : Er (List Rv)}, PA1 K W h ρ σ Q e → PA1 K W h1 ρ σ Q e
  | .ok r, q => fun v h' R g' ok => q v h' R (g.trans g') ok
  | .exc c p, q => fun h' R g' => q h' R (g.trans g')
  | .bad, q => q
theorem PA1.bindE {h : Hs} {ρ : Env} {σ : L2.St} {QA : List V → Hp → Prop} {e : Er Rv} {k : Rv → Er (List Rv)} (q : PA1 K W h ρ σ QA (e.bind k)) {Q' : VK}
    (hk : ∀ a v h', e = .ok a → Rel K h' ρ σ → Gr h h' → RvOk K h.H h' v a → PA1 K W h' ρ σ QA (k a) → Q' v h'.H) : PE1 K W h ρ σ Q' e := by
  cases e with
  | ok a => exact fun v h' R g ok => hk a v h' rfl R g ok (PA1.shift g q)
  | exc c p => exact q
  | bad => exact q
theorem PA1.bindA {h : Hs} {ρ : Env} {σ : L2.St} {QA : List V → Hp → Prop} {e : Er (List Rv)} {k : List Rv → Er (List Rv)} (q : PA1 K W h ρ σ QA (e.bind k)) {Q' : List V → Hp → Prop}
    (hk : ∀ a v h', e = .ok a → Rel K h' ρ σ → Gr h h' → RvsOk K h' v a → PA1 K W h' ρ σ QA (k a) → Q' v h'.H) : PA1 K W h ρ σ Q' e := by
  cases e with
  | ok a => exact fun v h' R g ok => hk a v h' rfl R g ok (PA1.shift g q)
  | exc c p => exact q
  | bad => exact q
theorem PE1.bindA {h : Hs} {ρ : Env} {σ : L2.St} {Q : VK} {e : Er (List Rv)} {k : List Rv → Er Rv} (q : PE1 K W h ρ σ Q (e.bind k)) {Q' : List V → Hp → Prop}
    (hk : ∀ a v h', e = .ok a → Rel K h' ρ σ → Gr h h' → RvsOk K h' v a → PE1 K W h' ρ σ Q (k a) → Q' v h'.H) : PA1 K W h ρ σ Q' e := by
  cases e with
  | ok a => exact fun v h' R g ok => hk a v h' rfl R g ok (PE1.shift g q)
  | exc c p => exact q
  | bad => exact q
theorem frz_ne {a : Rv} {c : Str} {p : Option (Str × D)} : a.frz ≠ .exc c p := by
  intro e
  cases a <;> cases e
theorem xanil : PA X [] (tXa X.K W aNil) := paTo pa_nil fun σ H Q ⟨h, ρ, e, R, q⟩ => by
  subst e
  exact q [] h R (Gr.refl _) trivial
theorem xacons {e : Expr} {es : List Expr} {r : AF} (ha : PE X e (tX X.K W f)) (hr : PA X es (tXa X.K W r)) (hs : starEach (e :: es) X.env = (false, eval e X.env) :: starEach es X.env := by rfl) : PA X (e :: es) (tXa X.K W (aCons f r)) := by
  refine paTo (pa_cons ha hr hs) fun σ H Q q => ?_
  obtain ⟨h, ρ, rfl, R, q⟩ := q
  refine tX_mk R (PA1.bindE q fun a v h1 _ R1 g1 ok1 q1 => ?_)
  cases ez : a.frz with
  | exc c p => exact absurd ez frz_ne
  | bad => rw [ez] at q1; exact q1.elim
  | ok a' =>
    rw [ez] at q1
    obtain ⟨h2, eh, R2, g2, ok2⟩ := frz_ok R R1 g1 ez ok1
    rw [← eh]
    -- what follows, from h2: q says it from h
    have q2 : PA1 X.K W h2 ρ σ Q ((r ρ).bind fun as => .ok (a' :: as)) := by
      have q0 : PA1 X.K W h ρ σ Q ((r ρ).bind fun as => .ok (a' :: as)) := by
        have e0 : aCons f r ρ = (r ρ).bind fun as => .ok (a' :: as) := by
          unfold aCons
          rw [show f ρ = .ok a by assumption]
          show (a.frz.bind _) = _
          rw [ez]
          rfl
        rw [e0] at q
        exact q
      exact PA1.shift g2 q0
    refine ⟨h2, ρ, rfl, R2, PA1.bindA q2 fun as vs h3 _ R3 g3 ok3 q3 => ?_⟩
    exact q3 _ h3 R3 (Gr.refl _) ⟨(RvF.of ez ok2).grow g3, ok3⟩
end
end Sq

/-! Displays, subscripts, calls of what is built in. -/
namespace Sq
open PySem PySem.Spec PyProof.Rows L2
section
variable {K : PySem.W.Frag} {W : WF} {X : Cx} {a b c e : Expr} {es : List Expr} {f g k : EF} {r : AF} {pos p : Pos}

/-! ### displays -/
def allV : List Rv → Option (List D)
  | [] => some []
  | .v d :: rs => (allV rs).map (d :: ·)
  | _ => none
def allB : List Rv → Option (List D)
  | [] => some []
  | .v d :: rs => (allB rs).map (d :: ·)
  | .b d :: rs => (allB rs).map (d :: ·)
  | _ => none
def allR : List Rv → Option (List D)
  | [] => some []
  | .v d :: rs => (allR rs).map (d :: ·)
  | .b d :: rs => (allR rs).map (d :: ·)
  | .r d :: rs => (allR rs).map (d :: ·)
  | _ => none
theorem allV_ok {h : Hs} (ch : Ch h) : ∀ {vs : List V} {rs : List Rv} {ds : List D}, allV rs = some ds → RvsOk K h vs rs → DpAll K h.G vs ds
  | [], [], _, e, _ => by cases e; exact .nil
  | _ :: _, .v d :: rs, ds, e, ⟨a, b⟩ => by
    obtain ⟨ds', e1, rfl⟩ := Option.map_eq_some_iff.mp e
    exact .cons a (allV_ok ch e1 b)
  | _ :: _, .b _ :: _, _, e, _ => by cases e
  | _ :: _, .r _ :: _, _, e, _ => by cases e
  | _ :: _, .w _ :: _, _, e, _ => by cases e
  | _ :: _, .o _ :: _, _, e, _ => by cases e
  | _ :: _, .wk _ :: _, _, e, _ => by cases e
  | _ :: _, .ok _ :: _, _, e, _ => by cases e
  | _ :: _, .wt _ :: _, _, e, _ => by cases e
  | _ :: _, .ot _ :: _, _, e, _ => by cases e
  | _ :: _, .p2 _ _ :: _, _, e, _ => by cases e
  | [], _ :: _, _, _, q => q.elim
  | _ :: _, [], _, _, q => q.elim
theorem allB_ok {h : Hs} (ch : Ch h) : ∀ {vs : List V} {rs : List Rv} {ds : List D}, allB rs = some ds → RvsOk K h vs rs → DpAll K h.F vs ds
  | [], [], _, e, _ => by cases e; exact .nil
  | _ :: _, .v d :: rs, ds, e, ⟨a, b⟩ => by
    obtain ⟨ds', e1, rfl⟩ := Option.map_eq_some_iff.mp e
    exact .cons (ex_dp ch.gf a) (allB_ok ch e1 b)
  | _ :: _, .b d :: rs, ds, e, ⟨a, b⟩ => by
    obtain ⟨ds', e1, rfl⟩ := Option.map_eq_some_iff.mp e
    exact .cons a (allB_ok ch e1 b)
  | _ :: _, .r _ :: _, _, e, _ => by cases e
  | _ :: _, .w _ :: _, _, e, _ => by cases e
  | _ :: _, .o _ :: _, _, e, _ => by cases e
  | _ :: _, .wk _ :: _, _, e, _ => by cases e
  | _ :: _, .ok _ :: _, _, e, _ => by cases e
  | _ :: _, .wt _ :: _, _, e, _ => by cases e
  | _ :: _, .ot _ :: _, _, e, _ => by cases e
  | _ :: _, .p2 _ _ :: _, _, e, _ => by cases e
  | [], _ :: _, _, _, q => q.elim
  | _ :: _, [], _, _, q => q.elim
theorem allR_ok {h : Hs} (ch : Ch h) : ∀ {vs : List V} {rs : List Rv} {ds : List D}, allR rs = some ds → RvsOk K h vs rs → DpAll K h.H vs ds
  | [], [], _, e, _ => by cases e; exact .nil
  | _ :: _, .v d :: rs, ds, e, ⟨a, b⟩ => by
    obtain ⟨ds', e1, rfl⟩ := Option.map_eq_some_iff.mp e
    exact .cons (ex_dp ch.gh a) (allR_ok ch e1 b)
  | _ :: _, .b d :: rs, ds, e, ⟨a, b⟩ => by
    obtain ⟨ds', e1, rfl⟩ := Option.map_eq_some_iff.mp e
    exact .cons (ex_dp ch.fh a) (allR_ok ch e1 b)
  | _ :: _, .r d :: rs, ds, e, ⟨a, b⟩ => by
    obtain ⟨ds', e1, rfl⟩ := Option.map_eq_some_iff.mp e
    exact .cons a (allR_ok ch e1 b)
  | _ :: _, .w _ :: _, _, e, _ => by cases e
  | _ :: _, .o _ :: _, _, e, _ => by cases e
  | _ :: _, .wk _ :: _, _, e, _ => by cases e
  | _ :: _, .ok _ :: _, _, e, _ => by cases e
  | _ :: _, .wt _ :: _, _, e, _ => by cases e
  | _ :: _, .ot _ :: _, _, e, _ => by cases e
  | _ :: _, .p2 _ _ :: _, _, e, _ => by cases e
  | [], _ :: _, _, _, q => q.elim
  | _ :: _, [], _, _, q => q.elim
def tupR (rs : List Rv) : Er Rv := if rs.length ≤ 1000 then (match allV rs with
  | some ds => .ok (.v (.tuple ds))
  | none => match allB rs with
    | some ds => .ok (.b (.tuple ds))
    | none => match allR rs with
      | some ds => .ok (.r (.tuple ds))
      | none => .bad) else .bad
def tupF (r : AF) : EF := fun ρ => (r ρ).bind tupR
theorem xtup {x1} (h : PA X es (tXa X.K W r)) : PE X (.Tuple es x1 pos) (tX X.K W (tupF r)) := by
  refine peTo (pe_tup h) fun σ H Q q => ?_
  obtain ⟨h, ρ, rfl, R, q⟩ := tX_iff.mp q
  refine ⟨h, ρ, rfl, R, PE1.bindA q fun rs vs h1 _ R1 g1 ok1 q1 => ?_⟩
  unfold tupR at q1
  split at q1
  · refine ⟨by rw [ok1.len]; exact sz100 (by omega), fun p hp => ?_⟩
    split at q1
    · rename_i e
      exact q1.newT R1 (allV_ok R1.ch e ok1) hp
    · split at q1
      · rename_i e
        exact q1.newTB R1 (allB_ok R1.ch e ok1) hp
      · split at q1
        · rename_i e
          exact q1.newTR R1 (allR_ok R1.ch e ok1) hp
        · exact q1.elim
  · exact q1.elim
def lstR (rs : List Rv) : Er Rv := if rs.length ≤ 1000 then (match allV rs with
  | some ds => .ok (.o ds)
  | none => match allB rs with
    | some ds => .ok (.b (.list ds))
    | none => .bad) else .bad
def lstF (r : AF) : EF := fun ρ => (r ρ).bind lstR
theorem PE1.newLB {h : Hs} {ρ : Env} {σ : L2.St} {Q : VK} {xs : List D} {vs : List V} (q : PE1 K W h ρ σ Q (.ok (.b (.list xs)))) (R : Rel K h ρ σ) (d : DpAll K h.F vs xs) {p : Addr} (hp : h.H p = none) : Q (.ref p) (upd h.H p (.lst vs)) :=
  q _ _ (R.newB hp) (Gr.newB R.ch hp) (Dp.lst (SqL.of upd_same) (ex_dpa (Ex.new (R.ch.fN hp)) d))
theorem xlst (h : PA X es (tXa X.K W r)) : PE X (.List es pos) (tX X.K W (lstF r)) := by
  refine peTo (pe_lst h) fun σ H Q q => ?_
  obtain ⟨h, ρ, rfl, R, q⟩ := tX_iff.mp q
  refine ⟨h, ρ, rfl, R, PE1.bindA q fun rs vs h1 _ R1 g1 ok1 q1 => ?_⟩
  unfold lstR at q1
  split at q1
  · refine ⟨by rw [ok1.len]; exact sz100 (by omega), fun p hp => ?_⟩
    split at q1
    · rename_i e
      exact q1.newL R1 (allV_ok R1.ch e ok1) hp
    · split at q1
      · rename_i e
        exact q1.newLB R1 (allB_ok R1.ch e ok1) hp
      · exact q1.elim
  · exact q1.elim
/-- {} -/
theorem xdnew : PE X (.Dict [] [] pos) (tX X.K W (fun _ => .ok (.ok []))) := by
  refine peTo pe_dnewK fun σ H Q q => ?_
  obtain ⟨h, ρ, rfl, R, q⟩ := tX_iff.mp q
  exact fun p hp => q _ _ (R.newO hp) (Gr.newO R.ch hp) ⟨p, [], rfl, hp, upd_same, R.ch.fN hp, .nil⟩

/-! ### subscripts -/
/-- an item of a list or tuple, as its holder is -/
def Rv.item : Rv → Int → Option Rv
  | .v (.tuple xs), i => (atI xs i).map .v
  | .v (.list xs), i => (atI xs i).map .v
  | .b (.tuple xs), i => (atI xs i).map .b
  | .b (.list xs), i => (atI xs i).map .b
  | .r (.tuple xs), i => (atI xs i).map .r
  | .r (.list xs), i => (atI xs i).map .r
  | .w xs, i => (atI xs i).map .v
  | .o xs, i => (atI xs i).map .v
  | _, _ => none
def ixSeq (a i : Rv) : Er Rv := match i.dat with
  | some (.int z) => match a.item z with
    | some r => .ok r
    | none => .bad
  | _ => .bad
theorem atI_dp {H : Hp} {vs : List V} {ds : List D} {i : Int} {d : D} (h : DpAll K H vs ds) (e : atI ds i = some d) : ∃ v, atI vs i = some v ∧ Dp K H v d := by
  unfold atI at e ⊢
  rw [h.len]
  obtain ⟨j, e1, e2⟩ := Option.bind_eq_some_iff.mp e
  obtain ⟨v, e3, e4⟩ := h.get e2
  exact ⟨v, by rw [e1]; exact e3, e4⟩
theorem ixL_ok {h : Hs} {H1 : Hp} {p : Addr} {vs : List V} {ds : List D} {i : Int} {d : D} {Q : V → Prop} (hs : SqL K h.H p vs) (hd : DpAll K H1 vs ds) (e : atI ds i = some d) (q : ∀ v, Dp K H1 v d → Q v) : rIx K (.ref p) (.int i) h.H (fun v H => H = h.H → Q v) := by
  obtain ⟨v, e1, e2⟩ := atI_dp hd e
  exact .inl ⟨p, vs, i, v, rfl, rfl, hs, e1, fun _ => q v e2⟩
theorem ok_ixSeq : OpOk K W ixSeq (rIx K) := by
  intro h0 h ρ σ x y a b Q R0 R g oka okb q
  unfold ixSeq at q
  split at q
  · rename_i i ei
    split at q
    · rename_i res er
      have ey := dp_int (okb.dp R.ch ei)
      subst ey
      -- the holder's list
      have fin : ∀ {H1 : Hp} {p : Addr} {vs : List V} {ds : List D} {d : D} {mk : D → Rv}, (SqL K h.H p vs ∨ SqT K h.H p vs) → DpAll K H1 vs ds → atI ds i = some d → res = mk d → (∀ v, Dp K H1 v d → RvOk K h.H h v (mk d)) → rIx K (.ref p) (.int i) h.H Q := by
        intro H1 p vs ds d mk hs hd e em hk
        obtain ⟨v, e1, e2⟩ := atI_dp hd e
        have fq : Q v h.H := by
          rw [em] at q
          exact q.now R (hk v e2)
        rcases hs with hs | hs
        · exact .inl ⟨p, vs, i, v, rfl, rfl, hs, e1, fq⟩
        · exact .inr (.inl ⟨p, vs, i, v, rfl, rfl, hs, e1, fq⟩)
      unfold Rv.item at er
      split at er
      · obtain ⟨d, e1, e2⟩ := Option.map_eq_some_iff.mp er
        obtain ⟨p, vs, rfl, hs, hd⟩ := dp_tup oka
        exact fin (mk := .v) (.inr (ex_t R.ch.gh hs)) hd e1 e2.symm fun v hv => hv
      · obtain ⟨d, e1, e2⟩ := Option.map_eq_some_iff.mp er
        obtain ⟨p, vs, rfl, hs, hd⟩ := dp_lst oka
        exact fin (mk := .v) (.inl (ex_l R.ch.gh hs)) hd e1 e2.symm fun v hv => hv
      · obtain ⟨d, e1, e2⟩ := Option.map_eq_some_iff.mp er
        obtain ⟨p, vs, rfl, hs, hd⟩ := dp_tup oka
        exact fin (mk := .b) (.inr (ex_t R.ch.fh hs)) hd e1 e2.symm fun v hv => hv
      · obtain ⟨d, e1, e2⟩ := Option.map_eq_some_iff.mp er
        obtain ⟨p, vs, rfl, hs, hd⟩ := dp_lst oka
        exact fin (mk := .b) (.inl (ex_l R.ch.fh hs)) hd e1 e2.symm fun v hv => hv
      · obtain ⟨d, e1, e2⟩ := Option.map_eq_some_iff.mp er
        obtain ⟨p, vs, rfl, hs, hd⟩ := dp_tup oka
        exact fin (mk := .r) (.inr hs) hd e1 e2.symm fun v hv => hv
      · obtain ⟨d, e1, e2⟩ := Option.map_eq_some_iff.mp er
        obtain ⟨p, vs, rfl, hs, hd⟩ := dp_lst oka
        exact fin (mk := .r) (.inl hs) hd e1 e2.symm fun v hv => hv
      · obtain ⟨d, e1, e2⟩ := Option.map_eq_some_iff.mp er
        obtain ⟨p, vs, rfl, hl, hd⟩ := oka
        exact fin (mk := .v) (.inl (.of hl)) hd e1 e2.symm fun v hv => hv
      · obtain ⟨d, e1, e2⟩ := Option.map_eq_some_iff.mp er
        obtain ⟨p, vs, rfl, _, hl, _, hd⟩ := oka
        exact fin (mk := .v) (.inl (.of hl)) hd e1 e2.symm fun v hv => hv
      · cases er
    · exact q.elim
  · exact q.elim
/-- a sign of a text -/
def ixStr : D → D → Er D := fun x y => match x, y with
  | .str z, .int i => if z.length ≤ 100000 then (match atI z.cps.toList i with
    | some c => .ok (.str ⟨#[c]⟩)
    | none => .bad) else .bad
  | _, _ => .bad
theorem ok_ixStr : OpOk K W (flat2 ixStr) rIxS := by
  refine flat_ok (fun x y c p e => ?_) (fun H x y d e f Q h1 h2 e1 q => ?_) fun d e f e1 => ?_
  · unfold ixStr at e
    split at e
    · split at e
      · split at e <;> cases e
      · cases e
    · cases e
  · unfold ixStr at e1
    split at e1
    · split at e1
      · split at e1
        · rename_i hz _ c ec
          cases e1
          exact ⟨_, _, c, dp_str h1, dp_int h2, sz100 hz, ec, q _ rfl⟩
        · cases e1
      · cases e1
    · cases e1
  · unfold ixStr at e1
    split at e1
    · split at e1
      · split at e1
        · cases e1; rfl
        · cases e1
      · cases e1
    · cases e1
def ixDic (a i : Rv) : Er Rv := match a with
  | .wk kvs => match i.dat.bind keyD with
    | some k => match getK kvs k with
      | some d => .ok (.v d)
      | none => .bad
    | none => .bad
  | _ => .bad
abbrev ixR := alt ixDic (alt ixSeq (flat2 ixStr))
theorem ix_of : ∀ σ H Q, tX K W (binF ixR f g) σ H Q → tDGet (tX K W f) (tX K W g) σ H Q ∨ tOp (rIx K) (tX K W f) (tX K W g) σ H Q := by
  intro σ H Q q
  obtain ⟨h, ρ, rfl, R, q⟩ := tX_iff.mp q
  by_cases e0 : ∃ kvs i, f ρ = .ok (.wk kvs) ∧ g ρ = .ok i ∧ ixDic (.wk kvs) i ≠ .bad
  · obtain ⟨kvs, i, ef, eg, nb⟩ := e0
    refine .inl (tX_mk R (q.bind fun a x h1 ea R1 g1 ok1 q1 => tX_mk R1 (q1.bind fun i' y h2 ei R2 g2 ok2 q2 => ?_)))
    rw [ef] at ea
    cases ea
    rw [eg] at ei
    cases ei
    have e2 : ixR (.wk kvs) i = ixDic (.wk kvs) i := by
      show alt ixDic (alt ixSeq (flat2 ixStr)) (.wk kvs) i = _
      unfold Sq.alt
      cases z : ixDic (.wk kvs) i with
      | bad => exact absurd z nb
      | ok _ => rfl
      | exc _ _ => rfl
    rw [e2] at q2
    unfold ixDic at q2 nb
    dsimp only at q2 nb
    cases ek : i.dat.bind keyD with
    | none => rw [ek] at nb; exact absurd rfl nb
    | some k =>
      rw [ek] at q2 nb
      dsimp only at q2 nb
      obtain ⟨p, o, ex, dg, ho⟩ := dget_ok R2.ch ek ok2 (ok1.grow g2)
      rcases ho with ⟨v, d, e3, e4, e5⟩ | ⟨e3, e4⟩
      · rw [e4] at q2
        rw [e3] at dg
        exact ⟨p, v, ex, dg, q2.now R2 e5⟩
      · rw [e4] at nb
        exact absurd rfl nb
  · refine .inr (tX_mk R (q.bind fun a x h1 ea R1 g1 ok1 q1 => tX_mk R1 (q1.bind fun i y h2 ei R2 g2 ok2 q2 => ?_)))
    have e1 : ixDic a i = .bad := by
      cases a with
      | wk kvs => exact Classical.byContradiction fun z => e0 ⟨kvs, i, ea, ei, z⟩
      | _ => rfl
    have e2 : ixR a i = alt ixSeq (flat2 ixStr) a i := by
      show (match ixDic a i with | .bad => _ | r => r) = _
      rw [e1]
    rw [e2] at q2
    rcases (ok_ixSeq.alt ok_ixStr) h h2 ρ σ x y a i Q R R2 (g1.trans g2) (ok1.grow g2) (ok2.old g1.x) q2 with z | z
    · exact z
    · exact .inr (.inr z)
theorem xix (hu : X.A.units + 1 < cLine) (ha : PE X a (tX X.K W f)) (hb : PE X b (tX X.K W g)) (hs : PlainIx b := by exact fun _ _ => rfl) (hn : NoSl b := by exact fun _ _ => rfl) : PE X (.Subscript a b pos) (tX X.K W (binF ixR f g)) :=
  peTo (peOr (pe_dget hu ha hb hn) (pe_ix ix_seq ha hb hs)) ix_of

/-! ### slices -/
def ptF (o : Option EF) : Env → Er (Option Int) := fun ρ => match o with
  | none => .ok none
  | some f => (f ρ).bind fun a => match a.dat with
    | some (.int i) => .ok (some i)
    | _ => .bad
def PO1 (K : PySem.W.Frag) (W : WF) (h : Hs) (ρ : Env) (σ : L2.St) (Q : Option Int → Hp → Prop) : Er (Option Int) → Prop
  | .ok r => ∀ h', Rel K h' ρ σ → Gr h h' → Q r h'.H
  | .exc c p => ∀ h', Rel K h' ρ σ → Gr h h' → W c p σ h'
  | .bad => False
def tXo (K : PySem.W.Frag) (W : WF) (o : Option EF) : TO := fun σ H Q => ∃ h ρ, h.H = H ∧ Rel K h ρ σ ∧ PO1 K W h ρ σ Q (ptF o ρ)
theorem xonone : PO X none (tXo X.K W none) := ⟨fun pins s σ H Q I hw => po_none.run pins s σ H Q I (by
  obtain ⟨h, ρ, rfl, R, q⟩ := hw
  exact q h R (Gr.refl h))⟩
theorem xosome (ha : PE X e (tX X.K W f)) : PO X (some e) (tXo X.K W (some f)) := ⟨fun pins s σ H Q I hw => (po_some ha).run pins s σ H Q I (by
  obtain ⟨h, ρ, rfl, R, q⟩ := hw
  have q : PO1 X.K W h ρ σ Q ((f ρ).bind fun a => match a.dat with
    | some (.int i) => .ok (some i)
    | _ => .bad) := q
  refine tX_mk R ?_
  cases e1 : f ρ with
  | bad => rw [e1] at q; exact q
  | exc c p => rw [e1] at q; exact q
  | ok a =>
    rw [e1] at q
    intro v h' R' g' ok'
    dsimp only [Er.bind] at q
    split at q
    · rename_i i ei
      exact ⟨i, dp_int (ok'.dp R'.ch ei), q h' R' g'⟩
    · exact q.elim)⟩
def cutD (xs : List D) (lo hi : Option Int) : List D := (xs.drop (HT.sIx xs.length 0 lo)).take (HT.sIx xs.length xs.length hi - HT.sIx xs.length 0 lo)
theorem cut_dp {H : Hp} {vs : List V} {ds : List D} (h : DpAll K H vs ds) (lo hi : Option Int) : DpAll K H (cutV vs lo hi) (cutD ds lo hi) := by
  unfold cutV cutD
  rw [h.len]
  exact (h.drop _).take _
/-- a cut: a new list, tuple, a text -/
def slR (a : Rv) (lo hi : Option Int) : Er Rv := match a with
  | .v (.list xs) => .ok (.o (cutD xs lo hi))
  | .w xs => .ok (.o (cutD xs lo hi))
  | .o xs => .ok (.o (cutD xs lo hi))
  | .b (.list xs) => .ok (.b (.list (cutD xs lo hi)))
  | .v (.tuple xs) => if HT.sIx xs.length 0 lo = 0 ∧ HT.sIx xs.length xs.length hi = xs.length then .bad else .ok (.v (.tuple (cutD xs lo hi)))
  | .v (.str z) => if z.length ≤ 100000 then .ok (.v (.str (cutS z lo hi))) else .bad
  | _ => .bad
def slF (f : EF) (lo hi : Option EF) : EF := fun ρ => (f ρ).bind fun a => (ptF lo ρ).bind fun l => (ptF hi ρ).bind fun u => slR a l u
theorem PE1.bindO {h : Hs} {ρ : Env} {σ : L2.St} {Q : VK} {e : Er (Option Int)} {k : Option Int → Er Rv} (q : PE1 K W h ρ σ Q (e.bind k)) {Q' : Option Int → Hp → Prop}
    (hk : ∀ a h', e = .ok a → Rel K h' ρ σ → Gr h h' → PE1 K W h' ρ σ Q (k a) → Q' a h'.H) : PO1 K W h ρ σ Q' e := by
  cases e with
  | ok a => exact fun h' R g => hk a h' rfl R g (PE1.shift g q)
  | exc c p => exact q
  | bad => exact q
theorem xsl {lo hi : Option Expr} {l u : Option EF} {p2 : Pos} (he : PE X e (tX X.K W f)) (hl : PO X lo (tXo X.K W l)) (hu : PO X hi (tXo X.K W u)) : PE X (.Subscript e (.Slice lo hi none p2) pos) (tX X.K W (slF f l u)) := by
  refine peTo (pe_slice ((sl_list.or sl_tup).or sl_str) he hl hu) fun σ H Q q => ?_
  obtain ⟨h, ρ, rfl, R, q⟩ := tX_iff.mp q
  refine tX_mk R (q.bind fun a x h1 _ R1 g1 ok1 q1 => ?_)
  refine ⟨h1, ρ, rfl, R1, PE1.bindO q1 fun l h2 _ R2 g2 q2 => ?_⟩
  refine ⟨h2, ρ, rfl, R2, PE1.bindO q2 fun u h3 _ R3 g3 q3 => ?_⟩
  have ok3 := (ok1.grow g2).grow g3
  unfold slR at q3
  split at q3
  · obtain ⟨p, vs, rfl, hs, hd⟩ := dp_lst ok3
    exact .inl (.inl ⟨p, vs, rfl, ex_l R3.ch.gh hs, fun p hp => q3.newL R3 (cut_dp hd _ _) hp⟩)
  · obtain ⟨p, vs, rfl, hl, hd⟩ := ok3
    exact .inl (.inl ⟨p, vs, rfl, .of hl, fun p hp => q3.newL R3 (cut_dp hd _ _) hp⟩)
  · obtain ⟨p, vs, rfl, _, hl, _, hd⟩ := ok3
    exact .inl (.inl ⟨p, vs, rfl, .of hl, fun p hp => q3.newL R3 (cut_dp hd _ _) hp⟩)
  · obtain ⟨p, vs, rfl, hs, hd⟩ := dp_lst ok3
    exact .inl (.inl ⟨p, vs, rfl, ex_l R3.ch.fh hs, fun p hp => q3.newLB R3 (cut_dp hd _ _) hp⟩)
  · obtain ⟨p, vs, rfl, hs, hd⟩ := dp_tup ok3
    split at q3
    · exact q3.elim
    · rename_i hn
      exact .inl (.inr ⟨p, vs, rfl, ex_t R3.ch.gh hs, by rw [hd.len]; exact hn, fun p hp => q3.newT R3 (cut_dp hd _ _) hp⟩)
  · split at q3
    · rename_i hz
      have e := dp_str ok3
      subst e
      exact .inr ⟨_, rfl, sz100 hz, q3.now R3 (.str _)⟩
    · exact q3.elim
  · exact q3.elim
end
end Sq

/-! enumerate of a tuple. -/
namespace Sq
open PySem PySem.Spec PyProof.Rows L2
set_option maxHeartbeats 1000000 in
theorem meets_enumerate_new1 {v : Value} {o : Obj} {H : Heap → Prop} (B : Begins v o H) :
    Meets (Builtin.«enumerate.__new__» ⟨[.type "enumerate", v], []⟩) (fun _ R s => H s.heap ∧
      R (.ok (.ret (.ref (s.heap.push o).objs.size))) { s with heap := (s.heap.push o).push { cls := .type "enumerate", data := .fields #[.none, .bool false, .ref s.heap.objs.size, rawInt 0, .none, .none] } }) :=
  .of_wp fun prog w A R s h => by
    obtain ⟨hp, g, d, tk, os⟩ := s; obtain ⟨h1, h⟩ := h
    have hsub := sub_enumerate
    have q1 : ∀ {A' : Around} {E : Value → Shared → Prop} {Q : Value → Shared → Prop}, Q (.ref hp.objs.size) ⟨hp.push o, g, d, tk, os⟩ → wpAny (model prog w) A' (pyIter v) Q E ⟨hp, g, d, tk, os⟩ :=
      fun q => B.iter prog w _ _ ⟨hp, g, d, tk, os⟩ _ h1 q
    wp_walk using q1
    refine wpAny_stack_any fun st => wpAny_pure ?_
    split
    · rename_i c _ _ _ _ _
      cases (c == Value.type "enumerate")
      · wp_walk using q1
        exact ⟨_, rfl, h⟩
      · wp_walk using q1
        exact ⟨_, rfl, h⟩
    · wp_walk using q1
      exact ⟨_, rfl, h⟩
theorem enum_begins1 {prog : Program} {w : World} {A : Around} {E : Value → Shared → Prop} {s : Shared} {v : Value} {o : Obj} {H : Heap → Prop} {Q : Value → Shared → Prop} (B : Begins v o H) (h1 : H s.heap)
    (h : ∀ h', IsEnum h' (s.heap.objs.size + 1) s.heap.objs.size 0 .none → h'.get? s.heap.objs.size = some o → h'.objs.size = s.heap.objs.size + 2 →
      (∀ b o, s.heap.get? b = some o → h'.get? b = some o) → Q (.ref (s.heap.objs.size + 1)) { s with heap := h' }) :
    wpAny (model prog w) A (call (.type "enumerate") [v]) Q E s := by
  refine callType_new F.called_enumerate (by decide) (F.typeCall_enumerate_1 _) (F.newCall_enumerate_1 _) (fun obj => F.args_object_init_2 obj _) F.entry_enumerate_new
    (meets_enumerate_new1 B) ⟨h1, ?_⟩
  have hz : (s.heap.push o).objs.size = s.heap.objs.size + 1 := Heap.size_push ..
  show _ ∧ _
  rw [hz]
  have he : IsEnum ((s.heap.push o).push { cls := .type "enumerate", data := .fields #[.none, .bool false, .ref s.heap.objs.size, rawInt 0, .none, .none] }) (s.heap.objs.size + 1) s.heap.objs.size 0 .none := by
    have := Heap.get?_push_size (s.heap.push o) (o := { cls := .type "enumerate", data := .fields #[.none, .bool false, .ref s.heap.objs.size, rawInt 0, .none, .none] }) rfl
    rw [hz] at this; exact this
  refine ⟨⟨_, he, rfl⟩, h _ he (Heap.get?_push_of_some _ (Heap.get?_push_size _ B.free)) (by rw [Heap.size_push, hz]) fun b o x => Heap.get?_push_of_some _ (Heap.get?_push_of_some _ x)⟩
/-- the tuple at a at each turn, each item in a new pair -/
def IteT (K : PySem.W.Frag) (a : Addr) : It :=
  ⟨fun i H => ∃ (xs : List V) (x : V), SqT K H a xs ∧ xs[i]? = some x, fun i H v H' => ∃ T x, v = .ref T ∧ H T = none ∧ H' = upd H T (.tup [.int (i : Nat), x]) ∧ ∀ xs, SqT K H a xs → xs[i]? = some x, fun i H => ∃ xs : List V, SqT K H a xs ∧ xs.length ≤ i⟩
theorem turn_enumT {P : Program} {w : World} {K : PySem.W.Frag} {elts : List Expr} {kk : Nat} {tpos : Pos} (a e it : Addr) (hai : a ≠ it) :
    Turn P w K (.Tuple elts kk tpos) (IteT K a) [e, it] e (fun i h => (∃ old, IsEnum h e it ((i : Nat) : Int) old) ∧ h.IsTupleIter it a i ∧ e ≠ it ∧ a ≠ e) where
  mem := by simp
  obj := fun i h st b hb => by
    obtain ⟨⟨old, he⟩, ⟨o, ho, hc, hd⟩, _⟩ := st
    have e' : b = e ∨ b = it := by simpa using hb
    rcases e' with z | z
    · rw [z]; exact ⟨_, he, fun v q => nomatch q⟩
    · rw [z]; exact ⟨o, ho, fun v q => by rw [hd] at q; cases q⟩
  keep := fun i h h' st k => let ⟨⟨old, he⟩, hi, hne⟩ := st; ⟨⟨old, k e (by simp) _ he⟩, hi.at fun o q => k it (by simp) o q, hne⟩
  item := by
    intro X hP hw hK hc i pins s σ H E I hf st hg
    subst hP hw hK
    obtain ⟨⟨old, he⟩, hit, hne, hae⟩ := st
    obtain ⟨xs, x, hq, hx⟩ := hg
    obtain ⟨its, rv, p, hz⟩ := I.tuple hq
    obtain ⟨u, hu, ru⟩ := rv.get hx
    have hel : e < s.heap.objs.size := Heap.lt_size he
    have hil : it < s.heap.objs.size := by obtain ⟨_, q, _⟩ := hit; exact Heap.lt_size q
    have hu' : its.toArray[i]? = some u := by simpa using hu
    have hlt : i < its.toArray.size := (Array.getElem?_eq_some_iff.mp hu').1
    have D := Draws.tuple (prog := X.prog) (w := X.w) (A := X.A.in1) (I.ok.hd hc) it a hai its.toArray
    refine wpAny_pyNext_enum_itemD D he ⟨hit, p⟩ hlt hne (by simp only [List.mem_cons, List.not_mem_nil, or_false, not_or]; exact ⟨hne, Ne.symm hae⟩) fun x' h' tk hP ho hst' hT hsz hk => ?_
    obtain ⟨hit', p'⟩ := hst'
    have ex : x' = u := Option.some.inj (hP.symm.trans hu')
    subst ex
    refine ⟨_, rfl, wpAny_letOwnedTupleGo_enum (s := { s with heap := h', toks := tk + 1 }) ho fun h'' he' sb => ?_⟩
    have hT2 : h''.get? s.heap.objs.size = some { cls := .type "tuple", data := .seq #[.int i tk, x'] } := (sb.2 _ (Nat.ne_of_gt hel)).trans hT
    have new : ObjOk X.prog X.w (upd H s.heap.objs.size (.tup [.int (i : Nat), x])) h'' s.heap.objs.size (.tup [.int (i : Nat), x]) :=
      ⟨by show 2 ≤ sizeLine; decide, [.int i tk, x'], .cons ⟨_, rfl⟩ (.cons ru .nil), ⟨_, hT2, rfl, _, rfl⟩⟩
    have I1 : Inv X pins σ (upd H s.heap.objs.size (.tup [.int (i : Nat), x])) { s with heap := h'', toks := tk + 1 } :=
      I.turnedNew (ch := [e, it]) (fun b ob hb q => (sb.2 b (fun z => hb (by simp [z]))).trans (hk b ob (fun z => hb (by simp [z])) (fun z => hb (by simp [z])) q)) hf (Nat.le_refl _) new
    refine ⟨.ref s.heap.objs.size, _, I1, rfl, ⟨_, x, rfl, I.hok.fresh (Nat.le_refl _), rfl, fun ys hy => by rw [I.tuple_inj hy hq]; exact hx⟩, ⟨⟨x', ?_⟩, hit'.at fun o q => (sb.2 it (Ne.symm hne)).trans q, hne, hae⟩, fun b hb => ?_⟩
    · have e1 : ((i + 1 : Nat) : Int) = (i : Int) + 1 := by omega
      rw [e1]; exact he'
    · have hb' : b < s.heap.objs.size := by
        have e' : b = e ∨ b = it := by simpa using hb
        rcases e' with z | z
        · rw [z]; exact hel
        · rw [z]; exact hil
      rw [upd_ne (Nat.ne_of_lt hb')]
      exact (hf b hb).1
  done := by
    intro X hP hw hK hc i pins s σ H E I hf st hg
    subst hP hw hK
    obtain ⟨⟨old, he⟩, hit, hne, hae⟩ := st
    obtain ⟨xs, hq, hx⟩ := hg
    obtain ⟨its, rv, p, hz⟩ := I.tuple hq
    obtain ⟨f0, f1, f2, f3, f4, f5⟩ := hf it (by simp)
    have hl := rv.length
    have hT : s.TypeIs (.ref e) "enumerate" := ⟨_, he, rfl⟩
    unfold pyNext
    refine wpAny_bind (wpAny_attempt (wpAny_callSpecial?_slot (name := Str.ofString "__next__") hT F.slot_enumerate_next
      (wpAny_call_entry F.slot_enumerate_next hT F.entry_enumerate_next ?_ (F.args_enumerate_next_1 _))))
    show wpAny _ _ (field (.ref e) 2 >>= _) _ _ _
    refine wpAny_bind (wpAny_field he rfl (x := .ref it) rfl ?_)
    refine wpAny_bind (wpAny_nextOf_tuple_end (I.ok.hd hc) hit p (by simp; omega) fun h' x he' hx' => ?_)
    obtain ⟨o, ho, hc'⟩ := hx'
    refine wpAny_bind (wpAny_isInstance (T := "StopIteration") (b := true) ⟨o, ho, hc'⟩ isSubtype_stop ?_)
    exact wpAny_pure ⟨rfl, I.turned (t' := s.toks) (fun b o hb q => he' b o hb q) f0 f1 f3 f4 f5⟩
  self := fun A i s Q E st h => let ⟨⟨_, he⟩, _⟩ := st; wpAny_pyIter_enum he h
/-- enumerate(x), x a list or a tuple -/
def iEnumA (K : PySem.W.Frag) (ta : TE) : TI := fun σ H R => ta σ H fun v H1 => ∃ a xs, v = .ref a ∧ ((SqL K H1 a xs ∧ R (Ite K a) H1) ∨ (SqT K H1 a xs ∧ R (IteT K a) H1))
theorem pi_enumA {X : Cx} {e : Expr} {ta : TE} {p pos tpos : Pos} {elts : List Expr} {kk : Nat} (hg : Gl X "enumerate") (hm : X.mg "enumerate" = none) (ha : PE X e ta) (hs : starEach [e] X.env = (false, eval e X.env) :: starEach [] X.env := by rfl) (hs2 : starEach [e] X.env = [(false, eval e X.env)] := by rfl) :
    PI X (.Tuple elts kk tpos) (.Call (.Name "enumerate" p) [e] [] pos) (iEnumA X.K ta) := by
  refine ⟨fun pins s σ H R I h => ?_⟩
  refine Call_ (ld_blt I hg hm boot_enumerate (PyProof.Rows.callWith_type1 (args_cons (thn (ha.run pins s σ H _ I h) fun u s1 ⟨v, H1, I1, r1, q1⟩ => args_nil ?_) hs) hs2 rfl))
  obtain ⟨a, xs, ex, q⟩ := q1
  subst ex
  obtain rfl : u = Value.ref a := r1
  have fin : ∀ {b : Addr}, b ∈ [s1.heap.objs.size + 1, s1.heap.objs.size] → FpOk X pins H1 b := fun {b} hb => by
    have e' : b = s1.heap.objs.size + 1 ∨ b = s1.heap.objs.size := by simpa using hb
    have hle : s1.heap.objs.size ≤ b := by
      rcases e' with z | z
      · rw [z]; exact Nat.le_add_right _ _
      · rw [z]; exact Nat.le_refl _
    exact I1.fpOk hle (I1.hok.fresh hle)
  rcases q with ⟨hq, q⟩ | ⟨hq, q⟩
  · obtain ⟨its, rv, p', hz⟩ := I1.list hq
    refine call_enumerate_list p'.isList fun h' he hit hsz hk => wpAny_pyIter_enum he ?_
    have I2 : Inv X pins σ H1 { s1 with heap := h' } := I1.kept (t' := s1.toks) hk
    exact ⟨s1.heap.objs.size + 1, [s1.heap.objs.size + 1, s1.heap.objs.size], _, _, H1, rfl, I2, turn_enum a (s1.heap.objs.size + 1) s1.heap.objs.size, ⟨⟨.none, he⟩, hit, Nat.succ_ne_self _⟩, fun b hb => fin hb, q⟩
  · obtain ⟨its, rv, p', hz⟩ := I1.tuple hq
    have hal : a < s1.heap.objs.size := p'.lt
    refine enum_begins1 (begins_tuple a its.toArray) p' fun h' he hit hsz hk => wpAny_pyIter_enum he ?_
    have I2 : Inv X pins σ H1 { s1 with heap := h' } := I1.kept (t' := s1.toks) hk
    exact ⟨s1.heap.objs.size + 1, [s1.heap.objs.size + 1, s1.heap.objs.size], _, _, H1, rfl, I2, turn_enumT a (s1.heap.objs.size + 1) s1.heap.objs.size (Nat.ne_of_lt hal), ⟨⟨.none, he⟩, ⟨_, hit, rfl, rfl⟩, Nat.succ_ne_self _, Nat.ne_of_lt (Nat.lt_succ_of_lt hal)⟩, fun b hb => fin hb, q⟩
end Sq

/-! Targets, what is walked, comprehensions. -/
namespace Sq
open PySem PySem.Spec PyProof.Rows L2
section
variable {K : PySem.W.Frag} {W : WF} {X : Cx}

/-! ### targets -/
abbrev TF := Rv → Env → Er Env
def asgn (i : Nat) : TF := fun r ρ => match r with
  | .v d => .ok (ρ.set i (.v d))
  | .b d => .ok (ρ.set i (.b d))
  | .o xs => .ok (ρ.set i (.o xs))
  | .ok kvs => .ok (ρ.set i (.k kvs))
  | .ot kvs => .ok (ρ.set i (.t kvs))
  | .r d => if flatD d = true then .ok (ρ.set i (.v d)) else .bad
  | _ => .bad
theorem dp_flatG {H H' : Hp} {v : V} {d : D} (e : flatD d = true) (h : Dp K H v d) : Dp K H' v d := by
  cases h <;> first | (cases e; done) | constructor
/-- a slot is stored -/
theorem Rel.set {h : Hs} {ρ : Env} {σ : L2.St} (R : Rel K h ρ σ) (i : Nat) {s : Sl} {v : V} (ok : SlOk K h (some v) s)
    (fr : ∀ (j : Nat) (t : Sl) (l : Addr), s.own = true → v = .ref l → ρ[j]? = some t → t.own = true → σ[j]? ≠ some (some (.ref l))) : Rel K h (ρ.set i s) (σ.set i (some v)) := by
  refine ⟨R.ch, by simp [R.len], fun j t x e1 e2 => ?_, fun j k t u l m hjk e1 e2 o1 o2 e3 e4 => ?_⟩
  · by_cases hj : i = j
    · subst hj
      rw [List.getElem?_set] at e1 e2
      simp only [if_true] at e1 e2
      split at e1
      · split at e2
        · cases e1; cases e2; exact ok
        · cases e2
      · cases e1
    · rw [List.getElem?_set_ne hj] at e1 e2
      exact R.at_ j t x e1 e2
  · by_cases hj : i = j
    · subst hj
      rw [List.getElem?_set_ne hjk] at e2 e4
      rw [List.getElem?_set] at e1 e3
      simp only [if_true] at e1 e3
      split at e1
      · split at e3
        · cases e1; cases e3
          intro z
          subst z
          exact fr k u l o1 rfl e2 o2 e4
        · cases e3
      · cases e1
    · by_cases hk : i = k
      · subst hk
        rw [List.getElem?_set_ne hj] at e1 e3
        rw [List.getElem?_set] at e2 e4
        simp only [if_true] at e2 e4
        split at e2
        · split at e4
          · cases e2; cases e4
            intro z
            subst z
            exact fr j t l o2 rfl e1 o1 e3
          · cases e4
        · cases e2
      · rw [List.getElem?_set_ne hj] at e1 e3
        rw [List.getElem?_set_ne hk] at e2 e4
        exact R.dis j k t u l m hjk e1 e2 o1 o2 e3 e4
theorem Rel.fresh {h : Hs} {ρ : Env} {σ : L2.St} (R : Rel K h ρ σ) {j : Nat} {t : Sl} {l : Addr} (n : h.H l = none) (a : ρ[j]? = some t) (b : t.own = true) : σ[j]? ≠ some (some (.ref l)) := fun e => by
  obtain ⟨⟨o, z⟩, _⟩ := R.ownH a b e
  rw [n] at z
  cases z
theorem asgn_ok {h0 h : Hs} {ρ ρ' : Env} {σ : L2.St} {i : Nat} {r : Rv} {v : V} (R0 : Rel K h0 ρ σ) (R : Rel K h ρ σ) (ok : RvOk K h0.H h v r) (e : asgn i r ρ = .ok ρ') : Rel K h ρ' (σ.set i (some v)) := by
  unfold asgn at e
  split at e
  · cases e; exact R.set i ⟨v, rfl, ok⟩ fun _ _ _ z => by cases z
  · cases e; exact R.set i ⟨v, rfl, ok⟩ fun _ _ _ z => by cases z
  · cases e
    obtain ⟨l, vs, rfl, n, a, b, q⟩ := ok
    exact R.set i ⟨l, vs, rfl, a, b, q⟩ fun j t m _ em e1 o1 => by cases em; exact R0.fresh n e1 o1
  · cases e
    obtain ⟨l, vs, rfl, n, a, b, q⟩ := ok
    exact R.set i ⟨l, vs, rfl, a, b, q⟩ fun j t m _ em e1 o1 => by cases em; exact R0.fresh n e1 o1
  · cases e
    obtain ⟨l, vs, rfl, n, a, b, q⟩ := ok
    exact R.set i ⟨l, vs, rfl, a, b, q⟩ fun j t m _ em e1 o1 => by cases em; exact R0.fresh n e1 o1
  · split at e
    · cases e; exact R.set i ⟨v, rfl, dp_flatG (by assumption) ok⟩ fun _ _ _ z => by cases z
    · cases e
  · cases e
/-- nothing but the slots fp is stored -/
def Fp (fp : List Nat) (σ σ' : L2.St) : Prop := σ'.length = σ.length ∧ ∀ k, k ∉ fp → σ'[k]? = σ[k]?
theorem wipe_get {σ : L2.St} : ∀ {vs : List Nat} {k : Nat}, (L2.wipe σ vs)[k]? = if k ∈ vs then (if k < σ.length then some none else none) else σ[k]?
  | [], k => by simp [L2.wipe]
  | v :: vs, k => by
    unfold L2.wipe
    rw [List.getElem?_set]
    by_cases e : v = k
    · subst e
      simp [wipe_length]
    · rw [if_neg e, wipe_get (vs := vs)]
      have e2 : (k ∈ v :: vs) ↔ k ∈ vs := by simp [Ne.symm e]
      simp only [e2]
theorem Fp.wipe {fp : List Nat} {σ σ' : L2.St} (f : Fp fp σ σ') : L2.wipe σ' fp = L2.wipe σ fp := by
  apply List.ext_getElem?
  intro k
  rw [wipe_get, wipe_get, f.1]
  by_cases e : k ∈ fp
  · rw [if_pos e, if_pos e]
  · rw [if_neg e, if_neg e, f.2 k e]
theorem wipe_twice {fp : List Nat} (σ : L2.St) : L2.wipe (L2.wipe σ fp) fp = L2.wipe σ fp := by
  apply List.ext_getElem?
  intro k
  rw [wipe_get, wipe_length, wipe_get]
  by_cases e : k ∈ fp
  · rw [if_pos e, if_pos e]
  · rw [if_neg e, if_neg e]
theorem Fp.trans {a b : List Nat} {σ σ1 σ2 : L2.St} (f : Fp a σ σ1) (g : Fp b σ1 σ2) : Fp (a ++ b) σ σ2 :=
  ⟨g.1.trans f.1, fun k hk => by
    rw [List.mem_append, not_or] at hk
    exact (g.2 k hk.2).trans (f.2 k hk.1)⟩
def tG (K : PySem.W.Frag) (fp : List Nat) (φ : TF) : TG := fun v σ H Q => ∃ h0 h ρ r ρ', h.H = H ∧ Rel K h0 ρ σ ∧ Rel K h ρ σ ∧ RvOk K h0.H h v r ∧ φ r ρ = .ok ρ' ∧ ∀ σ', Rel K h ρ' σ' → Fp fp σ σ' → Q σ' h.H
theorem pgTo {tg : Expr} {t t' : TG} (h : PG X tg t) (i : ∀ v σ H Q, t' v σ H Q → t v σ H Q) : PG X tg t' := ⟨fun pins s σ H v u Q I r hw => h.run pins s σ H v u Q I r (i v σ H Q hw)⟩
theorem xgn (i : Nat) {x : Str} {pos : Pos} (hN : X.N.Nodup) (hi : X.N[i]? = some x := by rfl) (hx : Loc X.env.scope x := by first | exact Or.inl rfl | exact Or.inr rfl) (hf : X.fn x = true ∨ X.env.scope.names.lookup x = some .local := by first | exact .inl rfl | exact .inr rfl | assumption) : PG X (.Name x pos) (tG X.K [i] (asgn i)) :=
  pgTo (pg_name hN hi hx hf) fun v σ H Q ⟨h0, h, ρ, r, ρ', eh, R0, R, ok, e, q⟩ => by
    subst eh
    exact q _ (asgn_ok R0 R ok e) ⟨by simp, fun k hk => List.getElem?_set_ne (fun z => hk (by simp [z]))⟩
/-- several targets, the values of a tuple or list -/
def unpk : List TF → List Rv → Env → Er Env
  | [], [], ρ => .ok ρ
  | φ :: φs, r :: rs, ρ => (φ r ρ).bind fun ρ' => unpk φs rs ρ'
  | _, _, _ => .bad
def Rv.items (a : Rv) : Option (List Rv) := match a with
  | .v (.tuple xs) => some (xs.map .v)
  | .v (.list xs) => some (xs.map .v)
  | .b (.tuple xs) => some (xs.map .b)
  | .b (.list xs) => some (xs.map .b)
  | .r (.tuple xs) => some (xs.map .r)
  | .r (.list xs) => some (xs.map .r)
  | .w xs => some (xs.map .v)
  | .o xs => some (xs.map .v)
  | _ => none
def unpT (φs : List TF) : TF := fun r ρ => match r.items with
  | some rs => if rs.length = φs.length then unpk φs rs ρ else .bad
  | none => .bad
def VsF (K : PySem.W.Frag) (h : Hs) : List V → List Rv → Prop
  | [], [] => True
  | v :: vs, r :: rs => RvF K h v r ∧ VsF K h vs rs
  | _, _ => False
theorem vsf_map {h : Hs} {H1 : Hp} {mk : D → Rv} (hk : ∀ v d, Dp K H1 v d → RvF K h v (mk d)) : ∀ {vs : List V} {ds : List D}, DpAll K H1 vs ds → VsF K h vs (ds.map mk)
  | _, _, .nil => trivial
  | _, _, .cons a t => ⟨hk _ _ a, vsf_map hk t⟩
theorem RvF.rv {H0 : Hp} {h : Hs} {v : V} {r : Rv} (q : RvF K h v r) : RvOk K H0 h v r := by
  cases r <;> first | exact q | exact q.elim
/-- what a tuple or list holds -/
theorem items_ok {H0 : Hp} {h : Hs} (c : Ch h) {v : V} {a : Rv} {rs : List Rv} (e : a.items = some rs) (ok : RvOk K H0 h v a) : ∃ p vs, v = .ref p ∧ (SqL K h.H p vs ∨ SqT K h.H p vs) ∧ VsF K h vs rs := by
  unfold Rv.items at e
  split at e
  · cases e
    obtain ⟨p, vs, rfl, s, d⟩ := dp_tup ok
    exact ⟨p, vs, rfl, .inr (ex_t c.gh s), vsf_map (mk := Rv.v) (fun _ _ q => q) d⟩
  · cases e
    obtain ⟨p, vs, rfl, s, d⟩ := dp_lst ok
    exact ⟨p, vs, rfl, .inl (ex_l c.gh s), vsf_map (mk := Rv.v) (fun _ _ q => q) d⟩
  · cases e
    obtain ⟨p, vs, rfl, s, d⟩ := dp_tup ok
    exact ⟨p, vs, rfl, .inr (ex_t c.fh s), vsf_map (mk := Rv.b) (fun _ _ q => q) d⟩
  · cases e
    obtain ⟨p, vs, rfl, s, d⟩ := dp_lst ok
    exact ⟨p, vs, rfl, .inl (ex_l c.fh s), vsf_map (mk := Rv.b) (fun _ _ q => q) d⟩
  · cases e
    obtain ⟨p, vs, rfl, s, d⟩ := dp_tup ok
    exact ⟨p, vs, rfl, .inr s, vsf_map (mk := Rv.r) (fun _ _ q => q) d⟩
  · cases e
    obtain ⟨p, vs, rfl, s, d⟩ := dp_lst ok
    exact ⟨p, vs, rfl, .inl s, vsf_map (mk := Rv.r) (fun _ _ q => q) d⟩
  · cases e
    obtain ⟨p, vs, rfl, l, d⟩ := ok
    exact ⟨p, vs, rfl, .inl (.of l), vsf_map (mk := Rv.v) (fun _ _ q => q) d⟩
  · cases e
    obtain ⟨p, vs, rfl, _, l, _, d⟩ := ok
    exact ⟨p, vs, rfl, .inl (.of l), vsf_map (mk := Rv.v) (fun _ _ q => q) d⟩
  · cases e
theorem VsF.len {h : Hs} : ∀ {vs : List V} {rs : List Rv}, VsF K h vs rs → vs.length = rs.length
  | [], [], _ => rfl
  | _ :: _, _ :: _, q => congrArg (· + 1) (VsF.len q.2)
  | [], _ :: _, q => q.elim
  | _ :: _, [], q => q.elim
theorem VsF.get {h : Hs} : ∀ {vs : List V} {rs : List Rv} {i : Nat} {v : V}, VsF K h vs rs → vs[i]? = some v → ∃ r, rs[i]? = some r ∧ RvF K h v r
  | [], [], _, _, _, e => by simp at e
  | w :: _, r :: _, 0, v, q, e => by
    have e' : w = v := by simpa using e
    subst e'
    exact ⟨r, rfl, q.1⟩
  | _ :: _, _ :: _, i + 1, v, q, e => VsF.get (i := i) q.2 (by simpa using e)
  | [], _ :: _, _, _, q, _ => q.elim
  | _ :: _, [], _, _, q, _ => q.elim
def tGs (K : PySem.W.Frag) (fp : List Nat) (φs : List TF) : TGs := fun vs σ H Q => ∃ h ρ rs ρ', h.H = H ∧ Rel K h ρ σ ∧ VsF K h vs rs ∧ unpk φs rs ρ = .ok ρ' ∧ ∀ σ', Rel K h ρ' σ' → Fp fp σ σ' → Q σ' h.H
theorem pgsTo {tgs : List Expr} {t t' : TGs} (h : PGs X tgs t) (i : ∀ v σ H Q, t' v σ H Q → t v σ H Q) : PGs X tgs t' := ⟨fun pins s σ H v u Q I r hw => h.run pins s σ H v u Q I r (i v σ H Q hw)⟩
theorem xgnil : PGs X [] (tGs X.K [] []) := pgsTo pgs_nil fun vs σ H Q ⟨h, ρ, rs, ρ', eh, R, q, e, k⟩ => by
  subst eh
  cases vs with
  | nil =>
    cases rs with
    | nil =>
      cases e
      exact ⟨rfl, k σ R ⟨rfl, fun _ _ => rfl⟩⟩
    | cons _ _ => exact q.elim
  | cons _ _ =>
    cases rs with
    | nil => exact q.elim
    | cons _ _ => cases e
theorem xgcons {e : Expr} {es : List Expr} {φ : TF} {φs : List TF} {fa fb : List Nat} (h1 : PG X e (tG X.K fa φ)) (h2 : PGs X es (tGs X.K fb φs)) (hs : (assignEach (e :: es) X.env).map (·.2) = assign e X.env :: (assignEach es X.env).map (·.2) := by rfl) : PGs X (e :: es) (tGs X.K (fa ++ fb) (φ :: φs)) :=
  pgsTo (pgs_cons h1 h2 hs) fun vs σ H Q ⟨h, ρ, rs, ρ', eh, R, q, e, k⟩ => by
    subst eh
    cases vs with
    | nil =>
      cases rs with
      | nil => cases e
      | cons _ _ => exact q.elim
    | cons v vs =>
      cases rs with
      | nil => exact q.elim
      | cons r rs =>
        unfold unpk at e
        cases e1 : φ r ρ with
        | bad => rw [e1] at e; cases e
        | exc c p => rw [e1] at e; cases e
        | ok ρ1 =>
          rw [e1] at e
          exact ⟨v, vs, rfl, h, h, ρ, r, ρ1, rfl, R, R, q.1.rv, e1, fun σ1 R1 F1 => ⟨h, ρ1, rs, ρ', rfl, R1, q.2, e, fun σ2 R2 F2 => k σ2 R2 (F1.trans F2)⟩⟩
theorem xgtup {es : List Expr} {k : Nat} {φs : List TF} {n : Nat} {fp : List Nat} {pos : Pos} (hc : X.calm = true) (h : PGs X es (tGs X.K fp φs)) (hl : φs.length = n := by rfl)
    (hn : (assignEach es X.env).length = n := by rfl) (hst : (assignEach es X.env).findIdx? (·.1) = none := by rfl) : PG X (.Tuple es k pos) (tG X.K fp (unpT φs)) := by
  have p1 := pg_tup (k := k) (pos := pos) hc h hn hst
  have p2 := pg_lst (k := k) (pos := pos) hc h hn hst
  refine pgTo (t := fun v σ H Q => gTup X.K n (tGs X.K fp φs) v σ H Q ∨ gLst X.K n (tGs X.K fp φs) v σ H Q) ⟨fun pins s σ H v u Q I r hw => hw.elim (p1.run pins s σ H v u Q I r) (p2.run pins s σ H v u Q I r)⟩ ?_
  rintro v σ H Q ⟨h0, h, ρ, r, ρ', eh, R0, R, ok, e, k⟩
  subst eh
  unfold unpT at e
  split at e
  · rename_i rs er
    split at e
    · rename_i hlen
      obtain ⟨p, vs, rfl, hs, q⟩ := items_ok R.ch er ok
      have hlv : vs.length = n := by rw [q.len, hlen, hl]
      rcases hs with hs | hs
      · exact .inr ⟨p, vs, rfl, hs, hlv, h, ρ, rs, ρ', rfl, R, q, e, k⟩
      · exact .inl ⟨p, vs, rfl, hs, hlv, h, ρ, rs, ρ', rfl, R, q, e, k⟩
    · cases e
  · cases e
end
end Sq

/-! What is walked. -/
namespace Sq
open PySem PySem.Spec PyProof.Rows L2
/-- what a walk needs to stay: P h0 h tells how h came from h0 -/
structure ItOk (P : Hs → Hs → Prop) (K : PySem.W.Frag) (J : It) (h0 : Hs) (rs : List Rv) : Prop where
  go : ∀ i h, P h0 h → Ch h → i < rs.length → J.go i h.H
  stop : ∀ i h, P h0 h → Ch h → rs.length ≤ i → J.stop i h.H
  yld : ∀ i h v H', P h0 h → Ch h → i < rs.length → J.yld i h.H v H' → ∃ h' r, h'.H = H' ∧ Gr h h' ∧ Ch h' ∧ rs[i]? = some r ∧ RvF K h' v r
abbrev IF := Env → Er (List Rv)
def PI1 (P : Hs → Hs → Prop) (K : PySem.W.Frag) (W : WF) (h : Hs) (ρ : Env) (σ : L2.St) (R : It → Hp → Prop) : Er (List Rv) → Prop
  | .ok rs => ∀ J h', Rel K h' ρ σ → Gr h h' → ItOk P K J h' rs → R J h'.H
  | .exc c p => ∀ h', Rel K h' ρ σ → Gr h h' → W c p σ h'
  | .bad => False
def tI (P : Hs → Hs → Prop) (K : PySem.W.Frag) (W : WF) (f : IF) : TI := fun σ H R => ∃ h ρ, h.H = H ∧ Rel K h ρ σ ∧ PI1 P K W h ρ σ R (f ρ)
section
variable {K : PySem.W.Frag} {W : WF} {X : Cx} {e a b : Expr} {tg : Expr} {f g : EF} {p pos : Pos} {P : Hs → Hs → Prop}
theorem piTo {t t' : TI} (h : PI X tg e t) (i : ∀ σ H R, t' σ H R → t σ H R) : PI X tg e t' := ⟨fun pins s σ H R I hw => h.run pins s σ H R I (i σ H R hw)⟩
theorem piOr {t t' : TI} (h : PI X tg e t) (h' : PI X tg e t') : PI X tg e (fun σ H R => t σ H R ∨ t' σ H R) := ⟨fun pins s σ H R I hw => hw.elim (h.run pins s σ H R I) (h'.run pins s σ H R I)⟩
theorem PI1.shift {h h1 : Hs} {ρ : Env} {σ : L2.St} {R : It → Hp → Prop} (g : Gr h h1) : ∀ {e : Er (List Rv)}, PI1 P K W h ρ σ R e → PI1 P K W h1 ρ σ R e
  | .ok r, q => fun J h' R g' ok => q J h' R (g.trans g') ok
  | .exc c p, q => fun h' R g' => q h' R (g.trans g')
  | .bad, q => q
theorem PI1.bindE {h : Hs} {ρ : Env} {σ : L2.St} {QA : It → Hp → Prop} {e : Er Rv} {k : Rv → Er (List Rv)} (q : PI1 P K W h ρ σ QA (e.bind k)) {Q' : VK}
    (hk : ∀ a v h', e = .ok a → Rel K h' ρ σ → Gr h h' → RvOk K h.H h' v a → PI1 P K W h' ρ σ QA (k a) → Q' v h'.H) : PE1 K W h ρ σ Q' e := by
  cases e with
  | ok a => exact fun v h' R g ok => hk a v h' rfl R g ok (PI1.shift g q)
  | exc c p => exact q
  | bad => exact q
theorem PI1.bindA {h : Hs} {ρ : Env} {σ : L2.St} {QA : It → Hp → Prop} {e : Er (List Rv)} {k : List Rv → Er (List Rv)} (q : PI1 P K W h ρ σ QA (e.bind k)) {Q' : List V → Hp → Prop}
    (hk : ∀ a v h', e = .ok a → Rel K h' ρ σ → Gr h h' → RvsOk K h' v a → PI1 P K W h' ρ σ QA (k a) → Q' v h'.H) : PA1 K W h ρ σ Q' e := by
  cases e with
  | ok a => exact fun v h' R g ok => hk a v h' rfl R g ok (PI1.shift g q)
  | exc c p => exact q
  | bad => exact q
/-- in statements: what is walked must stay for good -/
def itS (a : Rv) : Er (List Rv) := match a with
  | .v (.tuple xs) => .ok (xs.map .v)
  | .v (.list xs) => .ok (xs.map .v)
  | .b (.tuple xs) => .ok (xs.map .b)
  | .b (.list xs) => .ok (xs.map .b)
  | .o xs => .ok (xs.map .v)
  | _ => .bad
/-- in comprehensions -/
def itC (a : Rv) : Er (List Rv) := match a.items with
  | some rs => .ok rs
  | none => .bad
/-- a walk over a list, a tuple whose holder's items are known by mk at the heap proj -/
theorem itl_ok {h0 : Hs} {rs : List Rv} {a : Addr} {vs : List V} (hs : ∀ h, P h0 h → Ch h → SqL K h.H a vs) (hv : ∀ h, P h0 h → Ch h → VsF K h vs rs) : ItOk P K (Itl K a) h0 rs where
  go := fun i h p c hi => by
    have q := hv h p c
    have hi' : i < vs.length := by rw [q.len]; exact hi
    exact ⟨vs, vs[i], hs h p c, List.getElem?_eq_getElem hi'⟩
  stop := fun i h p c hi => ⟨vs, hs h p c, by rw [(hv h p c).len]; exact hi⟩
  yld := fun i h v H' p c hi y => by
    obtain ⟨e, y⟩ := y
    subst e
    obtain ⟨r, e1, e2⟩ := (hv h p c).get (y vs (hs h p c))
    exact ⟨h, r, rfl, Gr.refl h, c, e1, e2⟩
theorem itt_ok {h0 : Hs} {rs : List Rv} {a : Addr} {vs : List V} (hs : ∀ h, P h0 h → Ch h → SqT K h.H a vs) (hv : ∀ h, P h0 h → Ch h → VsF K h vs rs) : ItOk P K (Itt K a) h0 rs where
  go := fun i h p c hi => by
    have q := hv h p c
    have hi' : i < vs.length := by rw [q.len]; exact hi
    exact ⟨vs, vs[i], hs h p c, List.getElem?_eq_getElem hi'⟩
  stop := fun i h p c hi => ⟨vs, hs h p c, by rw [(hv h p c).len]; exact hi⟩
  yld := fun i h v H' p c hi y => by
    obtain ⟨e, y⟩ := y
    subst e
    obtain ⟨r, e1, e2⟩ := (hv h p c).get (y vs (hs h p c))
    exact ⟨h, r, rfl, Gr.refl h, c, e1, e2⟩
theorem VsF.grow {h h' : Hs} (g : Gr h h') : ∀ {vs : List V} {rs : List Rv}, VsF K h vs rs → VsF K h' vs rs
  | [], [], _ => trivial
  | _ :: _, _ :: _, q => ⟨q.1.grow g, VsF.grow g q.2⟩
  | [], _ :: _, q => q
  | _ :: _, [], q => q
/-- what holds a statement's walk: data that stays -/
theorem keepS {h0 h : Hs} {ρ : Env} {σ : L2.St} (R0 : Rel K h0 ρ σ) (R : Rel K h ρ σ) (g : Gr h0 h) {v : V} {a : Rv} {rs : List Rv} (e : itS a = .ok rs) (ok : RvOk K h0.H h v a) :
    ∃ h' p vs, h'.H = h.H ∧ Rel K h' ρ σ ∧ Gr h0 h' ∧ v = .ref p ∧ (∀ h2, SG h' h2 → Ch h2 → VsF K h2 vs rs) ∧ ((∀ h2, SG h' h2 → Ch h2 → SqL K h2.H p vs) ∨ (∀ h2, SG h' h2 → Ch h2 → SqT K h2.H p vs)) := by
  unfold itS at e
  split at e
  · cases e
    obtain ⟨p, vs, rfl, s, d⟩ := dp_tup ok
    exact ⟨h, p, vs, rfl, R, g, rfl, fun h2 s2 c2 => vsf_map (mk := Rv.v) (fun _ _ q => q) (ex_dpa s2.g d), .inr fun h2 s2 c2 => ex_t (s2.g.trans c2.gh) s⟩
  · cases e
    obtain ⟨p, vs, rfl, s, d⟩ := dp_lst ok
    exact ⟨h, p, vs, rfl, R, g, rfl, fun h2 s2 c2 => vsf_map (mk := Rv.v) (fun _ _ q => q) (ex_dpa s2.g d), .inl fun h2 s2 c2 => ex_l (s2.g.trans c2.gh) s⟩
  · cases e
    obtain ⟨p, vs, rfl, s, d⟩ := dp_tup ok
    exact ⟨h, p, vs, rfl, R, g, rfl, fun h2 s2 c2 => vsf_map (mk := Rv.b) (fun _ _ q => q) (ex_dpa s2.f d), .inr fun h2 s2 c2 => ex_t (s2.f.trans c2.fh) s⟩
  · cases e
    obtain ⟨p, vs, rfl, s, d⟩ := dp_lst ok
    exact ⟨h, p, vs, rfl, R, g, rfl, fun h2 s2 c2 => vsf_map (mk := Rv.b) (fun _ _ q => q) (ex_dpa s2.f d), .inl fun h2 s2 c2 => ex_l (s2.f.trans c2.fh) s⟩
  · rename_i xs
    cases e
    obtain ⟨h', eh, R', g', ok'⟩ := frz_ok R0 R g (a := .o xs) rfl ok
    obtain ⟨p, vs, rfl, s, d⟩ := dp_lst ok'
    exact ⟨h', p, vs, eh, R', g', rfl, fun h2 s2 c2 => vsf_map (mk := Rv.v) (fun _ _ q => q) (ex_dpa s2.g d), .inl fun h2 s2 c2 => ex_l (s2.g.trans c2.gh) s⟩
  · cases e
theorem keepC {h0 h : Hs} {ρ : Env} {σ : L2.St} (R : Rel K h ρ σ) {v : V} {a : Rv} {rs : List Rv} (e : itC a = .ok rs) (ok : RvOk K h0.H h v a) :
    ∃ p vs, v = .ref p ∧ (∀ h2, Gr h h2 → Ch h2 → VsF K h2 vs rs) ∧ ((∀ h2, Gr h h2 → Ch h2 → SqL K h2.H p vs) ∨ (∀ h2, Gr h h2 → Ch h2 → SqT K h2.H p vs)) := by
  unfold itC at e
  split at e
  · rename_i rs' e'
    cases e
    obtain ⟨p, vs, rfl, hs, q⟩ := items_ok R.ch e' ok
    refine ⟨p, vs, rfl, fun h2 g c => q.grow g, ?_⟩
    rcases hs with hs | hs
    · exact .inl fun h2 g c => ex_l g.x hs
    · exact .inr fun h2 g c => ex_t g.x hs
  · cases e
def itF (it : Rv → Er (List Rv)) (f : EF) : IF := fun ρ => (f ρ).bind it
/-- a list or a tuple walked -/
def iSeq (K : PySem.W.Frag) (tl : TE) : TI := fun σ H R => tl σ H fun x H1 => ∃ a xs, x = .ref a ∧ ((SqL K H1 a xs ∧ R (Itl K a) H1) ∨ (SqT K H1 a xs ∧ R (Itt K a) H1))
theorem pi_seq {tl : TE} (hl : PE X e tl) : PI X tg e (iSeq X.K tl) := by
  refine ⟨fun pins s σ H R I h => ?_⟩
  refine thn (hl.run pins s σ H _ I h) fun v s1 ⟨x, H1, I1, r1, q1⟩ => ?_
  obtain ⟨a, xs, e, q⟩ := q1
  subst e
  cases r1
  rcases q with ⟨hq, q⟩ | ⟨hq, q⟩
  · obtain ⟨its, rv, p, hz⟩ := I1.list hq
    refine wpAny_pyIter_list p.isList ?_
    refine ⟨s1.heap.objs.size, [s1.heap.objs.size], _, _, H1, rfl, I1.kept (t' := s1.toks) fun b o e => Heap.get?_push_of_some _ e, turn_list a _, ⟨_, Heap.get?_push_size _ rfl, rfl, rfl⟩, fun b hb => ?_, q⟩
    have e : b = s1.heap.objs.size := by simpa using hb
    subst e
    exact I1.fpOk (Nat.le_refl _) (I1.hok.fresh (Nat.le_refl _))
  · obtain ⟨its, rv, p, hz⟩ := I1.tuple hq
    refine wpAny_pyIter_tuple (show s1.heap.IsTuple a its.toArray from p) ?_
    refine ⟨s1.heap.objs.size, [s1.heap.objs.size], _, _, H1, rfl, I1.kept (t' := s1.toks) fun b o e => Heap.get?_push_of_some _ e, turn_tuple a _, ⟨_, Heap.get?_push_size _ rfl, rfl, rfl⟩, fun b hb => ?_, q⟩
    have e : b = s1.heap.objs.size := by simpa using hb
    subst e
    exact I1.fpOk (Nat.le_refl _) (I1.hok.fresh (Nat.le_refl _))
theorem itS_ne {a : Rv} {c : Str} {p : Option (Str × D)} : itS a ≠ .exc c p := by
  intro e
  unfold itS at e
  split at e <;> cases e
theorem itC_ne {a : Rv} {c : Str} {p : Option (Str × D)} : itC a ≠ .exc c p := by
  intro e
  unfold itC at e
  split at e <;> cases e
theorem sgch {h' : Hs} (c : Ch h') : SG h' h' := SG.refl h'
/-- a sequence walked, in a statement -/
theorem xiS (he : PE X e (tX X.K W f)) : PI X tg e (tI SG X.K W (itF itS f)) := by
  refine piTo (pi_seq he) fun σ H R q => ?_
  obtain ⟨h, ρ, rfl, Rl, q⟩ := q
  refine tX_mk Rl (PI1.bindE q fun a v h1 _ R1 g1 ok1 q1 => ?_)
  cases ei : itS a with
  | bad => rw [ei] at q1; exact q1.elim
  | exc c p => exact absurd ei itS_ne
  | ok rs =>
    rw [ei] at q1
    obtain ⟨h2, p, vs, eh, R2, g2, rfl, hv, hs⟩ := keepS Rl R1 g1 ei ok1
    have q2 : PI1 SG X.K W h ρ σ R (.ok rs) := by
      unfold itF at q
      have : f ρ = .ok a := by assumption
      rw [this] at q
      have q' : PI1 SG X.K W h ρ σ R (itS a) := q
      rw [ei] at q'
      exact q'
    rw [← eh]
    have c2 := R2.ch
    rcases hs with hs | hs
    · exact ⟨p, vs, rfl, .inl ⟨hs h2 (SG.refl _) c2, q2 _ h2 R2 g2 (itl_ok hs hv)⟩⟩
    · exact ⟨p, vs, rfl, .inr ⟨hs h2 (SG.refl _) c2, q2 _ h2 R2 g2 (itt_ok hs hv)⟩⟩
/-- in a comprehension -/
theorem xiC (he : PE X e (tX X.K W f)) : PI X tg e (tI Gr X.K W (itF itC f)) := by
  refine piTo (pi_seq he) fun σ H R q => ?_
  obtain ⟨h, ρ, rfl, Rl, q⟩ := q
  refine tX_mk Rl (PI1.bindE q fun a v h1 _ R1 g1 ok1 q1 => ?_)
  cases ei : itC a with
  | bad => rw [ei] at q1; exact q1.elim
  | exc c p => exact absurd ei itC_ne
  | ok rs =>
    rw [ei] at q1
    obtain ⟨p, vs, rfl, hv, hs⟩ := keepC R1 ei ok1
    have c2 := R1.ch
    rcases hs with hs | hs
    · exact ⟨p, vs, rfl, .inl ⟨hs h1 (Gr.refl _) c2, q1 _ h1 R1 (Gr.refl _) (itl_ok hs hv)⟩⟩
    · exact ⟨p, vs, rfl, .inr ⟨hs h1 (Gr.refl _) c2, q1 _ h1 R1 (Gr.refl _) (itt_ok hs hv)⟩⟩
/-! range -/
def rgR (lo hi : Int) : List Rv := (List.range (hi - lo).toNat).map fun i => .v (.int (lo + (i : Nat)))
def rg1F (f : EF) : IF := fun ρ => (f ρ).bind fun a => match a.dat with
  | some (.int n) => if n ≤ 1000000 ∧ -1000000 ≤ n then .ok (rgR 0 n) else .bad
  | _ => .bad
def rg2F (f g : EF) : IF := fun ρ => (f ρ).bind fun a => (g ρ).bind fun b => match a.dat, b.dat with
  | some (.int i), some (.int j) => if (i ≤ 1000000 ∧ -1000000 ≤ i) ∧ (j ≤ 1000000 ∧ -1000000 ≤ j) then .ok (rgR i j) else .bad
  | _, _ => .bad
theorem itr_ok {h0 : Hs} {lo hi : Int} : ItOk P K (Itr lo (hi - lo).toNat) h0 (rgR lo hi) where
  go := fun i h p c hi' => by
    unfold rgR at hi'
    have hi2 : i < (hi - lo).toNat := by simpa using hi'
    exact hi2
  stop := fun i h p c hi' => by
    unfold rgR at hi'
    have : (hi - lo).toNat ≤ i := by simpa using hi'
    exact this
  yld := fun i h v H' p c hi' y => by
    obtain ⟨e1, e2⟩ := y
    unfold rgR at hi' ⊢
    subst e1 e2
    refine ⟨h, .v (.int (lo + (i : Nat))), rfl, Gr.refl h, c, ?_, .int _⟩
    rw [List.getElem?_map, List.getElem?_range (by simpa using hi')]
    rfl
theorem PI1.bindE2 {h : Hs} {ρ : Env} {σ : L2.St} {QA : It → Hp → Prop} {e : Er Rv} {k : Rv → Er (List Rv)} (q : PI1 P K W h ρ σ QA (e.bind k)) {Q' : List V → Hp → Prop}
    (hk : ∀ a v h', e = .ok a → Rel K h' ρ σ → Gr h h' → RvOk K h.H h' v a → PI1 P K W h' ρ σ QA (k a) → Q' [v] h'.H) : PE1 K W h ρ σ (fun v H => Q' [v] H) e := PI1.bindE q hk
theorem xrg1 (hg : Gl X "range") (hm : X.mg "range" = none) (ha : PE X a (tX X.K W f)) (hs : starEach [a] X.env = [(false, eval a X.env)] := by rfl) (hs1 : starEach [a] X.env = (false, eval a X.env) :: starEach [] X.env := by rfl) : PI X tg (.Call (.Name "range" p) [a] [] pos) (tI P X.K W (rg1F f)) := by
  refine piTo (pi_range1 hg hm (pa_cons ha pa_nil hs1) hs) fun σ H R q => ?_
  obtain ⟨h, ρ, rfl, Rl, q⟩ := q
  refine tX_mk Rl (PI1.bindE q fun a v h1 _ R1 g1 ok1 q1 => ?_)
  split at q1
  · rename_i n en
    split at q1
    · have ev := dp_int (ok1.dp R1.ch en)
      subst ev
      have e0 : n.toNat = (n - 0).toNat := by omega
      refine ⟨n, rfl, by omega, by omega, ?_⟩
      rw [e0]
      exact q1 _ h1 R1 (Gr.refl _) itr_ok
    · exact q1.elim
  · exact q1.elim
theorem xrg2 (hg : Gl X "range") (hm : X.mg "range" = none) (ha : PE X a (tX X.K W f)) (hb : PE X b (tX X.K W g)) (hs : starEach [a, b] X.env = [(false, eval a X.env), (false, eval b X.env)] := by rfl) (hs2 : starEach [b] X.env = [(false, eval b X.env)] := by rfl)
    (hs3 : starEach [a, b] X.env = (false, eval a X.env) :: starEach [b] X.env := by rfl) (hs4 : starEach [b] X.env = (false, eval b X.env) :: starEach [] X.env := by rfl) : PI X tg (.Call (.Name "range" p) [a, b] [] pos) (tI P X.K W (rg2F f g)) := by
  refine piTo (pi_range2 hg hm (pa_cons ha (pa_cons hb pa_nil hs4) hs3) hs hs2) fun σ H R q => ?_
  obtain ⟨h, ρ, rfl, Rl, q⟩ := q
  show tX X.K W f σ h.H fun x H1 => tX X.K W g σ H1 fun y H2 => ∃ i j : Int, [x, y] = [V.int i, V.int j] ∧ (-(2 ^ 62) ≤ i ∧ i < 2 ^ 62 ∧ -(2 ^ 62) ≤ j ∧ j < 2 ^ 62) ∧ R (Itr i (j - i).toNat) H2
  refine (tX_mk (f := f) Rl (PI1.bindE q fun a v h1 _ R1 g1 ok1 q1 => ?_) : tX X.K W f σ h.H _)
  refine (tX_mk (f := g) R1 (PI1.bindE q1 fun b v2 h2 _ R2 g2 ok2 q2 => ?_) : tX X.K W g σ h1.H _)
  split at q2
  · rename_i i j ei ej
    split at q2
    · have ev := dp_int ((ok1.grow g2).dp R2.ch ei)
      subst ev
      have ev := dp_int (ok2.dp R2.ch ej)
      subst ev
      exact ⟨i, j, rfl, ⟨by omega, by omega, by omega, by omega⟩, q2 _ h2 R2 (Gr.refl _) itr_ok⟩
    · exact q2.elim
  · exact q2.elim
/-! enumerate -/
def enR (n : Nat) : List Rv → List Rv
  | [] => []
  | .v d :: rs => .v (.tuple [.int n, d]) :: enR (n + 1) rs
  | .b d :: rs => .b (.tuple [.int n, d]) :: enR (n + 1) rs
  | .r d :: rs => .r (.tuple [.int n, d]) :: enR (n + 1) rs
  | r :: rs => r :: enR (n + 1) rs
theorem enR_len : ∀ (n : Nat) (rs : List Rv), (enR n rs).length = rs.length
  | _, [] => rfl
  | n, r :: rs => by cases r <;> simp [enR, enR_len (n + 1) rs]
theorem enR_get : ∀ {rs : List Rv} {n i : Nat} {r : Rv}, rs[i]? = some r → ∃ q, (enR n rs)[i]? = some q ∧ (∀ d, r = .v d → q = .v (.tuple [.int ((n + i : Nat) : Int), d])) ∧ (∀ d, r = .b d → q = .b (.tuple [.int ((n + i : Nat) : Int), d])) ∧ (∀ d, r = .r d → q = .r (.tuple [.int ((n + i : Nat) : Int), d]))
  | [], _, _, _, e => by simp at e
  | r' :: rs, n, 0, r, e => by
    have e' : r' = r := by simpa using e
    subst e'
    cases r' <;> exact ⟨_, rfl, fun d z => by cases z <;> rfl, fun d z => by cases z <;> rfl, fun d z => by cases z <;> rfl⟩
  | r' :: rs, n, i + 1, r, e => by
    obtain ⟨q, e1, e2⟩ := enR_get (n := n + 1) (i := i) (rs := rs) (r := r) (by simpa using e)
    have en : n + 1 + i = n + (i + 1) := by omega
    rw [en] at e2
    exact ⟨q, by cases r' <;> simpa [enR] using e1, e2⟩
/-- a new pair -/
theorem pair_new {h : Hs} (c : Ch h) {T : Addr} (n : h.H T = none) {v : V} {r q : Rv} {i : Nat} (ok : RvF K h v r) (hq : (∀ d, r = .v d → q = .v (.tuple [.int ((i : Nat) : Int), d])) ∧ (∀ d, r = .b d → q = .b (.tuple [.int ((i : Nat) : Int), d])) ∧ (∀ d, r = .r d → q = .r (.tuple [.int ((i : Nat) : Int), d]))) :
    ∃ h', h'.H = upd h.H T (.tup [.int (i : Nat), v]) ∧ Gr h h' ∧ Ch h' ∧ RvF K h' (.ref T) q := by
  cases r with
  | v d =>
    rw [hq.1 d rfl]
    exact ⟨h.newV T (.tup [.int (i : Nat), v]), rfl, Gr.newV c n, c.newV, Dp.tup (SqT.of upd_same) (.cons (.int _) (.cons (ex_dp (Ex.new (c.gN n)) ok) .nil))⟩
  | b d =>
    rw [hq.2.1 d rfl]
    exact ⟨h.newB T (.tup [.int (i : Nat), v]), rfl, Gr.newB c n, c.newB n, Dp.tup (SqT.of upd_same) (.cons (.int _) (.cons (ex_dp (Ex.new (c.fN n)) ok) .nil))⟩
  | r d =>
    rw [hq.2.2 d rfl]
    exact ⟨h.newO T (.tup [.int (i : Nat), v]), rfl, Gr.newO c n, c.newO n, Dp.tup (SqT.of upd_same) (.cons (.int _) (.cons (ex_dp (Ex.new n) ok) .nil))⟩
  | _ => exact ok.elim
theorem ite_ok {h0 : Hs} {rs : List Rv} {a : Addr} {vs : List V} (hs : ∀ h, P h0 h → Ch h → SqL K h.H a vs) (hv : ∀ h, P h0 h → Ch h → VsF K h vs rs) : ItOk P K (Ite K a) h0 (enR 0 rs) where
  go := fun i h p c hi => by
    rw [enR_len] at hi
    have hi' : i < vs.length := by rw [(hv h p c).len]; exact hi
    exact ⟨vs, vs[i], hs h p c, List.getElem?_eq_getElem hi'⟩
  stop := fun i h p c hi => ⟨vs, hs h p c, by rw [(hv h p c).len, ← enR_len 0 rs]; exact hi⟩
  yld := fun i h v H' p c hi y => by
    obtain ⟨T, x, rfl, n, rfl, y⟩ := y
    obtain ⟨r, e1, e2⟩ := (hv h p c).get (y vs (hs h p c))
    obtain ⟨q, e3, e4⟩ := enR_get (n := 0) e1
    rw [Nat.zero_add] at e4
    obtain ⟨h', eh, g, c', ok⟩ := pair_new c n e2 e4
    exact ⟨h', q, eh, g, c', e3, ok⟩
theorem itet_ok {h0 : Hs} {rs : List Rv} {a : Addr} {vs : List V} (hs : ∀ h, P h0 h → Ch h → SqT K h.H a vs) (hv : ∀ h, P h0 h → Ch h → VsF K h vs rs) : ItOk P K (IteT K a) h0 (enR 0 rs) where
  go := fun i h p c hi => by
    rw [enR_len] at hi
    have hi' : i < vs.length := by rw [(hv h p c).len]; exact hi
    exact ⟨vs, vs[i], hs h p c, List.getElem?_eq_getElem hi'⟩
  stop := fun i h p c hi => ⟨vs, hs h p c, by rw [(hv h p c).len, ← enR_len 0 rs]; exact hi⟩
  yld := fun i h v H' p c hi y => by
    obtain ⟨T, x, rfl, n, rfl, y⟩ := y
    obtain ⟨r, e1, e2⟩ := (hv h p c).get (y vs (hs h p c))
    obtain ⟨q, e3, e4⟩ := enR_get (n := 0) e1
    rw [Nat.zero_add] at e4
    obtain ⟨h', eh, g, c', ok⟩ := pair_new c n e2 e4
    exact ⟨h', q, eh, g, c', e3, ok⟩
def enF (it : Rv → Er (List Rv)) (f : EF) : IF := fun ρ => (f ρ).bind fun a => (it a).bind fun rs => .ok (enR 0 rs)
section
variable {elts : List Expr} {kk : Nat} {tpos : Pos}
theorem xenS (hg : Gl X "enumerate") (hm : X.mg "enumerate" = none) (he : PE X e (tX X.K W f)) (hs : starEach [e] X.env = (false, eval e X.env) :: starEach [] X.env := by rfl) (hs2 : starEach [e] X.env = [(false, eval e X.env)] := by rfl) :
    PI X (.Tuple elts kk tpos) (.Call (.Name "enumerate" p) [e] [] pos) (tI SG X.K W (enF itS f)) := by
  refine piTo (pi_enumA hg hm he hs hs2) fun σ H R q => ?_
  obtain ⟨h, ρ, rfl, Rl, q⟩ := q
  refine tX_mk Rl (PI1.bindE q fun a v h1 _ R1 g1 ok1 q1 => ?_)
  cases ei : itS a with
  | bad => rw [ei] at q1; exact q1.elim
  | exc c p => exact absurd ei itS_ne
  | ok rs =>
    obtain ⟨h2, p, vs, eh, R2, g2, rfl, hv, hs⟩ := keepS Rl R1 g1 ei ok1
    have q2 : PI1 SG X.K W h ρ σ R (.ok (enR 0 rs)) := by
      unfold enF at q
      have : f ρ = .ok a := by assumption
      rw [this] at q
      have q' : PI1 SG X.K W h ρ σ R ((itS a).bind fun rs => .ok (enR 0 rs)) := q
      rw [ei] at q'
      exact q'
    rw [← eh]
    have c2 := R2.ch
    rcases hs with hs | hs
    · exact ⟨p, vs, rfl, .inl ⟨hs h2 (SG.refl _) c2, q2 _ h2 R2 g2 (ite_ok hs hv)⟩⟩
    · exact ⟨p, vs, rfl, .inr ⟨hs h2 (SG.refl _) c2, q2 _ h2 R2 g2 (itet_ok hs hv)⟩⟩
theorem xenC (hg : Gl X "enumerate") (hm : X.mg "enumerate" = none) (he : PE X e (tX X.K W f)) (hs : starEach [e] X.env = (false, eval e X.env) :: starEach [] X.env := by rfl) (hs2 : starEach [e] X.env = [(false, eval e X.env)] := by rfl) :
    PI X (.Tuple elts kk tpos) (.Call (.Name "enumerate" p) [e] [] pos) (tI Gr X.K W (enF itC f)) := by
  refine piTo (pi_enumA hg hm he hs hs2) fun σ H R q => ?_
  obtain ⟨h, ρ, rfl, Rl, q⟩ := q
  refine tX_mk Rl (PI1.bindE q fun a v h1 _ R1 g1 ok1 q1 => ?_)
  cases ei : itC a with
  | bad => rw [ei] at q1; exact q1.elim
  | exc c p => exact absurd ei itC_ne
  | ok rs =>
    rw [ei] at q1
    obtain ⟨p, vs, rfl, hv, hs⟩ := keepC R1 ei ok1
    have c2 := R1.ch
    rcases hs with hs | hs
    · exact ⟨p, vs, rfl, .inl ⟨hs h1 (Gr.refl _) c2, q1 _ h1 R1 (Gr.refl _) (ite_ok hs hv)⟩⟩
    · exact ⟨p, vs, rfl, .inr ⟨hs h1 (Gr.refl _) c2, q1 _ h1 R1 (Gr.refl _) (itet_ok hs hv)⟩⟩
end
end
end Sq

/-! Comprehensions. -/
namespace Sq
open PySem PySem.Spec PyProof.Rows L2
/-- nothing is raised -/
def WN : WF := fun _ _ _ _ => False
def Er.noX {α : Type} : Er α → Er α
  | .ok a => .ok a
  | _ => .bad
def wipeE (ρ : Env) : List Nat → Env
  | [] => ρ
  | v :: vs => (wipeE ρ vs).set v .u
/-- a result kept in a list -/
def Rv.keep (a : Rv) : Er D := match a with
  | .v d => .ok d
  | .o xs => .ok (.list xs)
  | .b d => if flatD d = true then .ok d else .bad
  | .r d => if flatD d = true then .ok d else .bad
  | _ => .bad
section
variable {φ : TF} {t : Env → Er Bool} {e : EF}
def lcLoop (φ : TF) (t : Env → Er Bool) (e : EF) (ρ : Env) : List Rv → Er (List D)
  | [] => .ok []
  | r :: rs => (φ r ρ).bind fun ρ' => (t ρ').noX.bind fun b =>
    if b = true then (e ρ').noX.bind fun a => a.keep.bind fun d => (lcLoop φ t e ρ rs).bind fun ds => .ok (d :: ds) else lcLoop φ t e ρ rs
def lcF (it : IF) (φ : TF) (vs : List Nat) (t : Env → Er Bool) (e : EF) : EF := fun ρ => (it ρ).bind fun rs => if rs.length ≤ 100000 then (lcLoop φ t e (wipeE ρ vs) rs).bind fun ds => .ok (.o ds) else .bad
def yesT : Env → Er Bool := fun _ => .ok true
end
section
variable {K : PySem.W.Frag} {W : WF} {X : Cx}
theorem noX_ok {α : Type} {e : Er α} {a : α} (h : e.noX = .ok a) : e = .ok a := by
  cases e <;> cases h
  rfl
theorem noX_exc {α : Type} {e : Er α} {c : Str} {p : Option (Str × D)} : e.noX ≠ .exc c p := by
  intro z
  cases e <;> cases z
theorem ebind_ok {α β : Type} {e : Er α} {k : α → Er β} {b : β} (h : e.bind k = .ok b) : ∃ a, e = .ok a ∧ k a = .ok b := by
  cases e with
  | ok a => exact ⟨a, rfl, h⟩
  | exc c p => cases h
  | bad => cases h
theorem keep_ne {a : Rv} {c : Str} {p : Option (Str × D)} : a.keep ≠ .exc c p := by
  intro z
  unfold Rv.keep at z
  split at z <;> first | (cases z; done) | (split at z <;> cases z)
theorem lcLoop_ne {φ : TF} {t : Env → Er Bool} {e : EF} {ρ : Env} (hφ : ∀ r ρ c p, φ r ρ ≠ .exc c p) : ∀ {rs : List Rv} {c : Str} {p : Option (Str × D)}, lcLoop φ t e ρ rs ≠ .exc c p
  | [], _, _, z => by cases z
  | r :: rs, c, p, z => by
    unfold lcLoop at z
    cases e1 : φ r ρ with
    | exc c p => exact hφ _ _ _ _ e1
    | bad => rw [e1] at z; cases z
    | ok ρ' =>
      rw [e1] at z
      dsimp only [Er.bind] at z
      cases e2 : (t ρ').noX with
      | exc c p => exact noX_exc e2
      | bad => rw [e2] at z; cases z
      | ok b =>
        rw [e2] at z
        dsimp only at z
        cases b with
        | false => exact lcLoop_ne hφ z
        | true =>
          rw [if_pos rfl] at z
          cases e3 : (e ρ').noX with
          | exc c p => exact noX_exc e3
          | bad => rw [e3] at z; cases z
          | ok a =>
            rw [e3] at z
            dsimp only at z
            cases e4 : a.keep with
            | exc c p => exact keep_ne e4
            | bad => rw [e4] at z; cases z
            | ok d =>
              rw [e4] at z
              dsimp only at z
              cases e5 : lcLoop φ t e ρ rs with
              | exc c p => exact lcLoop_ne hφ e5
              | bad => rw [e5] at z; cases z
              | ok ds => rw [e5] at z; cases z
theorem Rel.wipe {h : Hs} {ρ : Env} {σ : L2.St} (R : Rel K h ρ σ) : ∀ vs : List Nat, Rel K h (wipeE ρ vs) (wipe σ vs)
  | [] => R
  | v :: vs => by
    have ih := R.wipe vs
    refine ⟨ih.ch, by simp [wipeE, L2.wipe, ih.len], fun j s x e1 e2 => ?_, fun j k s u l m hjk e1 e2 o1 o2 e3 e4 => ?_⟩
    · unfold wipeE at e1
      unfold L2.wipe at e2
      by_cases hj : v = j
      · subst hj
        rw [List.getElem?_set] at e1
        simp only [if_true] at e1
        split at e1
        · cases e1; trivial
        · cases e1
      · rw [List.getElem?_set_ne hj] at e1 e2
        exact ih.at_ j s x e1 e2
    · unfold wipeE at e1 e2
      unfold L2.wipe at e3 e4
      have nj : v ≠ j := fun z => by
        subst z
        rw [List.getElem?_set] at e1
        simp only [if_true] at e1
        split at e1
        · cases e1; cases o1
        · cases e1
      have nk : v ≠ k := fun z => by
        subst z
        rw [List.getElem?_set] at e2
        simp only [if_true] at e2
        split at e2
        · cases e2; cases o2
        · cases e2
      rw [List.getElem?_set_ne nj] at e1 e3
      rw [List.getElem?_set_ne nk] at e2 e4
      exact ih.dis j k s u l m hjk e1 e2 o1 o2 e3 e4
/-- kept: frozen if new -/
theorem keep_ok {h0 h : Hs} {ρ : Env} {σ : L2.St} (R0 : Rel K h0 ρ σ) (R : Rel K h ρ σ) (g : Gr h0 h) {v : V} {a : Rv} {d : D} (e : a.keep = .ok d) (ok : RvOk K h0.H h v a) : ∃ h', h'.H = h.H ∧ Rel K h' ρ σ ∧ Gr h0 h' ∧ Dp K h'.G v d := by
  unfold Rv.keep at e
  split at e
  · cases e; exact ⟨h, rfl, R, g, ok⟩
  · rename_i xs
    cases e
    obtain ⟨h', eh, R', g', ok'⟩ := frz_ok R0 R g (a := .o xs) rfl ok
    exact ⟨h', eh, R', g', ok'⟩
  · split at e
    · cases e; exact ⟨h, rfl, R, g, dp_flatG (by assumption) ok⟩
    · cases e
  · split at e
    · cases e; exact ⟨h, rfl, R, g, dp_flatG (by assumption) ok⟩
    · cases e
  · cases e
/-- the reading of a comprehension -/
theorem lcX_of {it : IF} {φ : TF} {vs : List Nat} {t : Env → Er Bool} {e : EF} (hφ : ∀ r ρ c p, φ r ρ ≠ .exc c p) :
    ∀ σ H Q, tX K W (lcF it φ vs t e) σ H Q → tLc (tI Gr K W it) (tG K vs φ) (tXt K WN t) (tX K WN e) vs σ H Q := by
  intro σ H Q q
  obtain ⟨h, ρ, rfl, R, q⟩ := tX_iff.mp q
  unfold lcF at q
  refine ⟨h, ρ, rfl, R, ?_⟩
  cases ei : it ρ with
  | bad => rw [ei] at q; exact q
  | exc c p => rw [ei] at q; exact q
  | ok rs =>
    rw [ei] at q
    dsimp only [Er.bind] at q
    intro J h1 R1 g1 iok Dl hD
    split at q
    · rename_i hlen
      cases el : lcLoop φ t e (wipeE ρ vs) rs with
      | bad => rw [el] at q; exact q.elim
      | exc c p => exact absurd el (lcLoop_ne hφ)
      | ok ds =>
        rw [el] at q
        have q : PE1 K W h ρ σ Q (.ok (.o ds)) := q
        -- the invariant: done ++ rest = ds, the list holds done
        let Wv : Nat → Nat → Hp → Prop := fun i m H => m = rs.length - i ∧ i ≤ rs.length ∧ ∃ (h' : Hs) (done rest : List D) (acc : List V), h'.H = H ∧ Ch h' ∧ Gr h1 h' ∧ ds = done ++ rest ∧ done.length ≤ i ∧
          lcLoop φ t e (wipeE ρ vs) (rs.drop i) = .ok rest ∧ h'.H Dl = some (.lst acc) ∧ h'.F Dl = none ∧ DpAll K h'.G acc done
        refine ⟨Wv, ⟨rs.length, by omega, by omega, h1.newO Dl (.lst []), [], ds, [], rfl, R1.ch.newO hD, Gr.newO R1.ch hD, rfl, Nat.le_refl _, el, upd_same, R1.ch.fN hD, .nil⟩, ?_⟩
        rintro i m H1 ⟨em, hi, h2, done, rest, acc, rfl, c2, g2, eds, hdl, elr, hDl, fDl, dpa⟩
        have R2 : Rel K h2 ρ σ := R1.grow g2 c2
        by_cases hlt : i < rs.length
        · refine .inr ⟨iok.go i h2 g2 c2 hlt, fun H' => Wv (i + 1) (rs.length - (i + 1)) H', fun H' w => ⟨_, by omega, w⟩, fun x H' y => ?_⟩
          obtain ⟨h3, r, rfl, g3, c3, er, okr⟩ := iok.yld i h2 x H' g2 c2 hlt y
          have R3 : Rel K h3 ρ σ := R2.grow g3 c3
          have edrop : rs.drop i = r :: rs.drop (i + 1) := by
            obtain ⟨hh, e2⟩ := List.getElem?_eq_some_iff.mp er
            rw [List.drop_eq_getElem_cons hh, e2]
          rw [edrop] at elr
          unfold lcLoop at elr
          obtain ⟨ρ', e1, elr⟩ := ebind_ok elr
          obtain ⟨b, e2, elr⟩ := ebind_ok elr
          have e2 := noX_ok e2
          refine ⟨h3, h3, wipeE ρ vs, r, ρ', rfl, R3.wipe vs, R3.wipe vs, okr.rv, e1, fun σ' R' hw => ⟨hw.wipe.trans (wipe_twice σ), ?_⟩⟩
          refine tXt_mk R' ?_
          rw [e2]
          intro h4 R4 g4
          cases b with
          | false =>
            rw [if_neg (by decide)]
            rw [if_neg (by decide)] at elr
            exact ⟨rfl, hlt, h4, done, rest, acc, rfl, R4.ch, (g2.trans g3).trans g4, eds, by omega, elr, g4.x _ _ (g3.x _ _ hDl), g4.keepN (g3.keepN fDl hDl) (g3.x _ _ hDl), ex_dpa (g3.trans g4).g dpa⟩
          | true =>
            rw [if_pos rfl]
            rw [if_pos rfl] at elr
            obtain ⟨a, e3, elr⟩ := ebind_ok elr
            have e3 := noX_ok e3
            obtain ⟨d, e4, elr⟩ := ebind_ok elr
            obtain ⟨rest', e5, elr⟩ := ebind_ok elr
            cases elr
            refine tX_mk R4 ?_
            rw [e3]
            intro v h5 R5 g5 ok5
            obtain ⟨h6, eh, R6, g6, ok6⟩ := keep_ok R4 R5 g5 e4 ok5
            have g46 : Gr h2 h6 := (g3.trans g4).trans g6
            have hD6 : h6.H Dl = some (.lst acc) := g46.x _ _ hDl
            have fD6 : h6.F Dl = none := g46.keepN fDl hDl
            rw [← eh]
            refine ⟨acc, hD6, ?_, rfl, hlt, ⟨h6.G, h6.F, upd h6.H Dl (.lst (acc ++ [v]))⟩, done ++ [d], rest', acc ++ [v], rfl, ⟨R6.ch.gf, Ex.mut R6.ch.fh fD6⟩, ?_, ?_, ?_, e5, upd_same, fD6, ?_⟩
            · rw [dpa.len]
              exact Nat.lt_of_le_of_lt hdl (Nat.lt_of_lt_of_le hlt (sz100 hlen))
            · have gg := g2.trans g46
              exact ⟨gg.g, gg.f, Ex.mut gg.x hD, gg.gn, gg.fn⟩
            · rw [eds, List.append_assoc]
              rfl
            · rw [List.length_append]
              show done.length + 1 ≤ i + 1
              omega
            · exact (ex_dpa g46.g dpa).snoc ok6
        · have hi' : i = rs.length := by omega
          subst hi'
          rw [List.drop_length] at elr
          cases elr
          rw [List.append_nil] at eds
          subst eds
          refine .inl ⟨iok.stop _ h2 g2 c2 (Nat.le_refl _), ?_⟩
          exact q _ h2 R2 (g1.trans g2) ⟨Dl, acc, rfl, g1.x.back hD, hDl, fDl, dpa⟩
    · exact q.elim
variable {elt tg iter : Expr} {ifs : List Expr} {scope : Scope} {own : List (Str × Nat)} {pos : Pos} {it : IF} {φ : TF} {t : Env → Er Bool} {e : EF}
abbrev BlkE (X : Cx) (scope : Scope) (elt : Expr) (te : TE) : Prop := ∀ (s : Shared) (H : Hp) (C : Addr) (cl : List (Str × Addr)) (fp : List Addr), PE (X.blk s H scope (compEnvC scope cl C X.env) fp) elt te
abbrev BlkG (X : Cx) (scope : Scope) (tg : Expr) (g : TG) : Prop := ∀ (s : Shared) (H : Hp) (C : Addr) (cl : List (Str × Addr)) (fp : List Addr), PG (X.blk s H scope (compEnvC scope cl C X.env) fp) tg g
abbrev BlkT (X : Cx) (scope : Scope) (ifs : List Expr) (t : TT) : Prop := ∀ (s : Shared) (H : Hp) (C : Addr) (cl : List (Str × Addr)) (fp : List Addr), PTs (X.blk s H scope (compEnvC scope cl C X.env) fp) ifs t
theorem asgn_ne {i : Nat} : ∀ r ρ c p, asgn i r ρ ≠ .exc c p := by
  intro r ρ c p e
  unfold asgn at e
  split at e <;> first | (cases e; done) | (split at e <;> cases e)
theorem unpk_ne {φs : List TF} (h : ∀ φ ∈ φs, ∀ r ρ c p, φ r ρ ≠ .exc c p) : ∀ rs ρ c p, unpk φs rs ρ ≠ .exc c p := by
  induction φs with
  | nil =>
    intro rs ρ c p e
    cases rs <;> cases e
  | cons φ φs ih =>
    intro rs ρ c p e
    cases rs with
    | nil => cases e
    | cons r rs =>
      unfold unpk at e
      cases e1 : φ r ρ with
      | exc c p => exact h φ List.mem_cons_self _ _ _ _ e1
      | bad => rw [e1] at e; cases e
      | ok ρ' =>
        rw [e1] at e
        exact ih (fun ψ hψ => h ψ (List.mem_cons_of_mem _ hψ)) rs ρ' c p e
theorem unpT_ne {φs : List TF} (h : ∀ φ ∈ φs, ∀ r ρ c p, φ r ρ ≠ .exc c p) : ∀ r ρ c p, unpT φs r ρ ≠ .exc c p := by
  intro r ρ c p e
  unfold unpT at e
  split at e
  · split at e
    · exact unpk_ne h _ _ _ _ e
    · cases e
  · cases e
theorem xyes : PTs X [] (tXt X.K WN yesT) := ⟨fun pins s σ H Q I hw => pts_nil.run pins s σ H Q I (by
  obtain ⟨h, ρ, rfl, R, q⟩ := tXt_iff.mp hw
  exact q h R (Gr.refl h))⟩
theorem xlc (hc : X.calm = true) (hN : X.N.Nodup) (hφ : ∀ r ρ c p, φ r ρ ≠ .exc c p) (hi : PI X tg iter (tI Gr X.K W it)) (ok : BlkOk X.N X.env.scope scope own) (hg : BlkG X scope tg (tG X.K (own.map (·.2)) φ)) (ht : BlkT X scope ifs (tXt X.K WN t)) (he : BlkE X scope elt (tX X.K WN e))
    (hs : ∀ x, foldedSetIterable iter X.env x = pure x := by intro _; rfl) : PE X (.ListComp elt [⟨tg, iter, ifs, 0⟩] scope pos) (tX X.K W (lcF it φ (own.map (·.2)) t e)) :=
  peTo (pe_lc hc hN hi ok hg ht he hs) (lcX_of hφ)
/-- y = [..] -/
theorem xsetLcT {i : Nat} {y : Str} {py spos : Pos} (hc : X.calm = true) (hN : X.N.Nodup) (hy : X.N[i]? = some y) (hyl : X.env.scope.names.lookup y = some .local) (hsw : swapsWith (.ListComp elt [⟨tg, iter, ifs, 0⟩] scope pos) (some (.Name y py)) spos.line X.env = pure true)
    (hφ : ∀ r ρ c p, φ r ρ ≠ .exc c p) (hi : PI X tg iter (tI Gr X.K W it)) (ok : BlkOk X.N X.env.scope scope own) (hg : BlkG X scope tg (tG X.K (own.map (·.2)) φ)) (ht : BlkT X scope ifs (tXt X.K WN t)) (he : BlkE X scope elt (tX X.K WN e))
    (hs : ∀ x, foldedSetIterable iter X.env x = pure x := by intro _; rfl) : PS X (.Assign [.Name y py] (.ListComp elt [⟨tg, iter, ifs, 0⟩] scope pos) spos) (tAsg (tX X.K W (lcF it φ (own.map (·.2)) t e)) (gName i)) :=
  psTo (ps_setLc hc hN hy hyl hsw hi ok hg ht he hs) fun D σ H q => lcX_of hφ σ H _ q
end
end Sq

/-! Calls of what is built in. -/
namespace Sq
open PySem PySem.Spec PyProof.Rows L2
section
variable {K : PySem.W.Frag} {W : WF} {X : Cx} {a b e : Expr} {f g : EF} {p pos : Pos}
/-- one argument, as it is -/
def C1Ok (K : PySem.W.Frag) (W : WF) (φ : Rv → Er Rv) (r : List V → Hp → VK → Prop) : Prop :=
  ∀ (h0 h : Hs) (ρ : Env) (σ : L2.St) (x : V) (a : Rv) (Q : VK), Rel K h0 ρ σ → Rel K h ρ σ → Gr h0 h → RvOk K h0.H h x a → PE1 K W h ρ σ Q (φ a) → r [x] h.H Q
theorem c1_of {φ : Rv → Er Rv} {r : List V → Hp → VK → Prop} (hr : C1Ok K W φ r) : ∀ σ H Q, tX K W (unF φ f) σ H Q → tCB r (tCons (tX K W f) tNil) σ H Q := by
  intro σ H Q q
  obtain ⟨h, ρ, rfl, R, q⟩ := tX_iff.mp q
  exact tX_mk R (q.bind fun a x h1 _ R1 g1 ok1 q1 => hr h h1 ρ σ x a Q R R1 g1 ok1 q1)
theorem C1Ok.alt {φ ψ : Rv → Er Rv} {r r' : List V → Hp → VK → Prop} (a : C1Ok K W φ r) (b : C1Ok K W ψ r') : C1Ok K W (fun x => match φ x with | .bad => ψ x | q => q) (fun xs H Q => r xs H Q ∨ r' xs H Q) := fun h0 h ρ σ x a' Q R0 R g o q => by
  dsimp only at q
  cases e : φ a' with
  | ok z =>
    rw [e] at q
    exact .inl (a h0 h ρ σ x a' Q R0 R g o (by rw [e]; exact q))
  | exc c p =>
    rw [e] at q
    exact .inl (a h0 h ρ σ x a' Q R0 R g o (by rw [e]; exact q))
  | bad =>
    rw [e] at q
    exact .inr (b h0 h ρ σ x a' Q R0 R g o q)
/-- len -/
def lenR (a : Rv) : Er Rv := match a with
  | .wk kvs => .ok (.v (.int kvs.length))
  | a => match a.dat with
    | some (.list xs) => .ok (.v (.int xs.length))
    | some (.tuple xs) => .ok (.v (.int xs.length))
    | some (.str s) => if s.length ≤ 100000 then .ok (.v (.int s.length)) else .bad
    | _ => .bad
def rLenA (K : PySem.W.Frag) : List V → Hp → VK → Prop := fun xs H Q => (∃ p ys, xs = [.ref p] ∧ (SqL K H p ys ∨ SqT K H p ys) ∧ Q (.int ys.length) H) ∨ ((∃ z, xs = [.str z] ∧ z.length ≤ sizeLine ∧ Q (.int z.length) H) ∨ ∃ a kvs, xs = [.ref a] ∧ H a = some (.dK kvs) ∧ Q (.int kvs.length) H)
theorem dat_lenR {h : Hs} {ρ : Env} {σ : L2.St} {H0 : Hp} {x : V} {a : Rv} {Q : VK} (R : Rel K h ρ σ) (ok : RvOk K H0 h x a) (q : PE1 K W h ρ σ Q (match a.dat with
    | some (.list xs) => .ok (.v (.int xs.length))
    | some (.tuple xs) => .ok (.v (.int xs.length))
    | some (.str s) => if s.length ≤ 100000 then .ok (.v (.int s.length)) else .bad
    | _ => .bad)) : rLenA K [x] h.H Q := by
  split at q
  · rename_i xs e
    obtain ⟨p, vs, rfl, s, d⟩ := dp_lst (ok.dp R.ch e)
    exact .inl ⟨p, vs, rfl, .inl s, by rw [d.len]; exact q.now R (.int _)⟩
  · rename_i xs e
    obtain ⟨p, vs, rfl, s, d⟩ := dp_tup (ok.dp R.ch e)
    exact .inl ⟨p, vs, rfl, .inr s, by rw [d.len]; exact q.now R (.int _)⟩
  · rename_i s e
    split at q
    · have ex := dp_str (ok.dp R.ch e)
      subst ex
      exact .inr (.inl ⟨s, rfl, sz100 (by assumption), q.now R (.int _)⟩)
    · exact q.elim
  · exact q.elim
theorem ok_len : C1Ok K W lenR (rLenA K) := by
  intro h0 h ρ σ x a Q R0 R g ok q
  unfold lenR at q
  split at q
  · obtain ⟨l, vs, rfl, hl, kd⟩ := ok
    exact .inr (.inr ⟨l, vs, rfl, hl, by rw [kd.len]; exact q.now R (.int _)⟩)
  · exact dat_lenR R ok q
theorem call_lenA : CallR X (.builtin "len") (rLenA X.K) := call_len_seq.or (call_len_str.or call_lenD)
theorem xlen (hg : Gl X "len") (hm : X.mg "len" = none) (ha : PE X a (tX X.K W f)) (hs : starEach [a] X.env = (false, eval a X.env) :: starEach [] X.env := by rfl) : PE X (.Call (.Name "len" p) [a] [] pos) (tX X.K W (unF lenR f)) :=
  peTo (pe_callB call_lenA hg hm PySem.boot_len (pa_cons ha pa_nil hs) (he := hs)) (c1_of ok_len)
/-- list(x): a new list -/
def listR (a : Rv) : Er Rv := match a with
  | .v (.list xs) => .ok (.o xs)
  | .v (.tuple xs) => .ok (.o xs)
  | .w xs => .ok (.o xs)
  | .o xs => .ok (.o xs)
  | .b (.list xs) => if xs.all flatD = true then .ok (.o xs) else .bad
  | .b (.tuple xs) => if xs.all flatD = true then .ok (.o xs) else .bad
  | _ => .bad
theorem dp_flatsG {H H' : Hp} : ∀ {vs : List V} {ds : List D}, DpAll K H vs ds → ds.all flatD = true → DpAll K H' vs ds
  | _, _, .nil, _ => .nil
  | _, _, .cons h t, e => by
    rw [List.all_cons, Bool.and_eq_true] at e
    exact .cons (dp_flatG e.1 h) (dp_flatsG t e.2)
theorem ok_list : C1Ok K W listR (fun xs H Q => ∃ p ys, xs = [.ref p] ∧ (SqL K H p ys ∨ SqT K H p ys) ∧ ∀ l, H l = none → Q (.ref l) (upd H l (.lst ys))) := by
  intro h0 h ρ σ x a Q R0 R g ok q
  unfold listR at q
  split at q
  · obtain ⟨p, vs, rfl, s, d⟩ := dp_lst ok
    exact ⟨p, vs, rfl, .inl (ex_l R.ch.gh s), fun l hl => q.newL R d hl⟩
  · obtain ⟨p, vs, rfl, s, d⟩ := dp_tup ok
    exact ⟨p, vs, rfl, .inr (ex_t R.ch.gh s), fun l hl => q.newL R d hl⟩
  · obtain ⟨p, vs, rfl, s, d⟩ := ok
    exact ⟨p, vs, rfl, .inl (.of s), fun l hl => q.newL R d hl⟩
  · obtain ⟨p, vs, rfl, _, s, _, d⟩ := ok
    exact ⟨p, vs, rfl, .inl (.of s), fun l hl => q.newL R d hl⟩
  · split at q
    · obtain ⟨p, vs, rfl, s, d⟩ := dp_lst ok
      exact ⟨p, vs, rfl, .inl (ex_l R.ch.fh s), fun l hl => q.newL R (dp_flatsG d (by assumption)) hl⟩
    · exact q.elim
  · split at q
    · obtain ⟨p, vs, rfl, s, d⟩ := dp_tup ok
      exact ⟨p, vs, rfl, .inr (ex_t R.ch.fh s), fun l hl => q.newL R (dp_flatsG d (by assumption)) hl⟩
    · exact q.elim
  · exact q.elim
theorem xlistOf (hg : Gl X "list") (hm : X.mg "list" = none) (ha : PE X a (tX X.K W f)) (hs : starEach [a] X.env = (false, eval a X.env) :: starEach [] X.env := by rfl) : PE X (.Call (.Name "list" p) [a] [] pos) (tX X.K W (unF listR f)) :=
  peTo (pe_callTy call_list_of hg hm boot_list (pa_cons ha pa_nil hs) (he := hs)) (c1_of ok_list)
/-- tuple(x): a new tuple of a list, a tuple itself -/
def tupleR (a : Rv) : Er Rv := match a with
  | .v (.list xs) => .ok (.v (.tuple xs))
  | .w xs => .ok (.v (.tuple xs))
  | .o xs => .ok (.v (.tuple xs))
  | .b (.list xs) => if xs.all flatD = true then .ok (.v (.tuple xs)) else .bad
  | .v (.tuple xs) => .ok (.v (.tuple xs))
  | .b (.tuple xs) => .ok (.b (.tuple xs))
  | _ => .bad
theorem ok_tuple : C1Ok K W tupleR (fun xs H Q => ∃ p ys, xs = [.ref p] ∧ ((SqL K H p ys ∧ ∀ l, H l = none → Q (.ref l) (upd H l (.tup ys))) ∨ (SqT K H p ys ∧ Q (.ref p) H))) := by
  intro h0 h ρ σ x a Q R0 R g ok q
  unfold tupleR at q
  split at q
  · obtain ⟨p, vs, rfl, s, d⟩ := dp_lst ok
    exact ⟨p, vs, rfl, .inl ⟨ex_l R.ch.gh s, fun l hl => q.newT R d hl⟩⟩
  · obtain ⟨p, vs, rfl, s, d⟩ := ok
    exact ⟨p, vs, rfl, .inl ⟨.of s, fun l hl => q.newT R d hl⟩⟩
  · obtain ⟨p, vs, rfl, _, s, _, d⟩ := ok
    exact ⟨p, vs, rfl, .inl ⟨.of s, fun l hl => q.newT R d hl⟩⟩
  · split at q
    · obtain ⟨p, vs, rfl, s, d⟩ := dp_lst ok
      exact ⟨p, vs, rfl, .inl ⟨ex_l R.ch.fh s, fun l hl => q.newT R (dp_flatsG d (by assumption)) hl⟩⟩
    · exact q.elim
  · obtain ⟨p, vs, rfl, s, d⟩ := dp_tup ok
    exact ⟨p, vs, rfl, .inr ⟨ex_t R.ch.gh s, q.now R ok⟩⟩
  · obtain ⟨p, vs, rfl, s, d⟩ := dp_tup ok
    exact ⟨p, vs, rfl, .inr ⟨ex_t R.ch.fh s, q.now R ok⟩⟩
  · exact q.elim
theorem xtupleOf (hg : Gl X "tuple") (hm : X.mg "tuple" = none) (ha : PE X a (tX X.K W f)) (hs : starEach [a] X.env = (false, eval a X.env) :: starEach [] X.env := by rfl) : PE X (.Call (.Name "tuple" p) [a] [] pos) (tX X.K W (unF tupleR f)) :=
  peTo (pe_callTy call_tuple_of hg hm boot_tuple (pa_cons ha pa_nil hs) (he := hs)) (c1_of ok_tuple)
/-- list(range(n)), list(range(a, b)) -/
def intsD (lo hi : Int) : List D := (List.range (hi - lo).toNat).map fun i => .int (lo + (i : Nat))
def lrgF (f g : EF) : EF := fun ρ => (f ρ).bind fun a => (g ρ).bind fun b => match a.dat, b.dat with
  | some (.int i), some (.int j) => if (0 ≤ i ∧ i ≤ 1000000) ∧ (0 ≤ j ∧ j ≤ 1000000) then .ok (.o (intsD i j)) else .bad
  | _, _ => .bad
theorem ints_dp {H : Hp} {lo hi : Int} : DpAll K H (rgV lo hi) (intsD lo hi) := by
  unfold rgV intsD
  have : ∀ l : List Nat, DpAll K H (l.map fun i => V.int (lo + (i : Nat))) (l.map fun i => PyData.int (lo + (i : Nat))) := by
    intro l
    induction l with
    | nil => exact .nil
    | cons x l ih => exact .cons (.int _) ih
  exact this _
theorem xlrg1 {p2 pos2 : Pos} (hc : X.calm = true) (hg : Gl X "list") (hm : X.mg "list" = none) (hg2 : Gl X "range") (hm2 : X.mg "range" = none) (ha : PE X a (tX X.K W g)) (na : starEach [a] X.env = (false, eval a X.env) :: starEach [] X.env := by rfl)
    (na2 : starEach [.Call (.Name "range" p2) [a] [] pos2] X.env = (false, eval (.Call (.Name "range" p2) [a] [] pos2) X.env) :: starEach [] X.env := by rfl) : PE X (.Call (.Name "list" p) [.Call (.Name "range" p2) [a] [] pos2] [] pos) (tX X.K W (lrgF (cF (.int 0)) g)) := by
  refine peTo (pe_listRg hc hg hm (prg_1 hg2 hm2 ha na) na2) fun σ H Q q => ?_
  obtain ⟨h, ρ, rfl, R, q⟩ := tX_iff.mp q
  have q : PE1 X.K W h ρ σ Q ((g ρ).bind fun b => match (some (.int 0) : Option D), b.dat with
    | some (.int i), some (.int j) => if (0 ≤ i ∧ i ≤ 1000000) ∧ (0 ≤ j ∧ j ≤ 1000000) then .ok (.o (intsD i j)) else .bad
    | _, _ => .bad) := q
  show tX X.K W g σ h.H fun x H1 => ∃ n, x = .int n ∧ RgOk 0 n ∧ ∀ q, H1 q = none → Q (.ref q) (upd H1 q (.lst (rgV 0 n)))
  refine (tX_mk (f := g) R (q.bind fun b v h1 _ R1 g1 ok1 q1 => ?_) : tX X.K W g σ h.H _)
  split at q1
  · rename_i i j e1 ej
    cases e1
    split at q1
    · have ev := dp_int (ok1.dp R1.ch ej)
      subst ev
      exact ⟨j, rfl, RgOk.of_le (by omega) (by omega) (by omega) (by omega), fun l hl => q1.newL R1 ints_dp hl⟩
    · exact q1.elim
  · exact q1.elim
/-- abs -/
def absR (a : Rv) : Er Rv := match a.dat with
  | some (.int i) => .ok (.v (.int (if i < 0 then -i else i)))
  | _ => .bad
theorem xabs (hg : Gl X "abs") (hm : X.mg "abs" = none) (ha : PE X a (tX X.K W f)) (hs : starEach [a] X.env = (false, eval a X.env) :: starEach [] X.env := by rfl) : PE X (.Call (.Name "abs" p) [a] [] pos) (tX X.K W (unF absR f)) := by
  refine peTo (pe_callB call_abs hg hm boot_abs (pa_cons ha pa_nil hs) (he := hs)) (c1_of fun h0 h ρ σ x a Q R0 R g ok q => ?_)
  unfold absR at q
  split at q
  · rename_i i e
    have ex := dp_int (ok.dp R.ch e)
    subst ex
    exact ⟨i, rfl, q.now R (.int _)⟩
  · exact q.elim
/-- int(True), int(3) -/
def intR (a : Rv) : Er Rv := match a.dat with
  | some (.int i) => .ok (.v (.int i))
  | some (.bool k) => .ok (.v (.int (if k then 1 else 0)))
  | _ => .bad
theorem xintOf (hg : Gl X "int") (hm : X.mg "int" = none) (ha : PE X a (tX X.K W f)) (hs : starEach [a] X.env = (false, eval a X.env) :: starEach [] X.env := by rfl) : PE X (.Call (.Name "int" p) [a] [] pos) (tX X.K W (unF intR f)) := by
  refine peTo (pe_callTy call_int1 hg hm boot_int (pa_cons ha pa_nil hs) (he := hs)) (c1_of fun h0 h ρ σ x a Q R0 R g ok q => ?_)
  unfold intR at q
  split at q
  · rename_i i e
    have ex := dp_int (ok.dp R.ch e)
    subst ex
    exact .inl ⟨i, rfl, q.now R (.int _)⟩
  · rename_i i e
    have ex := dp_bl (ok.dp R.ch e)
    subst ex
    exact .inr ⟨i, rfl, q.now R (.int _)⟩
  · exact q.elim
/-- str(n) -/
def strR (a : Rv) : Er Rv := match a.dat with
  | some (.int i) => if i.natAbs.log2 < 1920 then .ok (.v (.str (toString i))) else .bad
  | _ => .bad
theorem xstrOf (hg : Gl X "str") (hm : X.mg "str" = none) (ha : PE X a (tX X.K W f)) (hs : starEach [a] X.env = (false, eval a X.env) :: starEach [] X.env := by rfl) : PE X (.Call (.Name "str" p) [a] [] pos) (tX X.K W (unF strR f)) := by
  refine peTo (pe_callTy call_str_int hg hm boot_str (pa_cons ha pa_nil hs) (he := hs)) (c1_of fun h0 h ρ σ x a Q R0 R g ok q => ?_)
  unfold strR at q
  split at q
  · rename_i i e
    split at q
    · have ex := dp_int (ok.dp R.ch e)
      subst ex
      exact ⟨i, rfl, by assumption, q.now R (.str _)⟩
    · exact q.elim
  · exact q.elim
/-! a list of intsD, of bools -/
def dInts : List D → Option (List Int)
  | [] => some []
  | .int i :: ds => (dInts ds).map (i :: ·)
  | _ => none
def dBools : List D → Option (List Bool)
  | [] => some []
  | .bool i :: ds => (dBools ds).map (i :: ·)
  | _ => none
theorem dInts_v {H : Hp} : ∀ {ds : List D} {vs : List V} {ns : List Int}, dInts ds = some ns → DpAll K H vs ds → vs = ns.map V.int
  | [], _, _, e, h => by cases h; cases e; rfl
  | .int i :: ds, _, ns, e, h => by
    cases h with
    | cons h t =>
      obtain ⟨ns', e1, rfl⟩ := Option.map_eq_some_iff.mp e
      rw [dp_int h, dInts_v e1 t]
      rfl
  | .none :: _, _, _, e, _ => by cases e
  | .bool _ :: _, _, _, e, _ => by cases e
  | .str _ :: _, _, _, e, _ => by cases e
  | .list _ :: _, _, _, e, _ => by cases e
  | .tuple _ :: _, _, _, e, _ => by cases e
  | .dict _ :: _, _, _, e, _ => by cases e
theorem dBools_v {H : Hp} : ∀ {ds : List D} {vs : List V} {ns : List Bool}, dBools ds = some ns → DpAll K H vs ds → vs = ns.map V.bl
  | [], _, _, e, h => by cases h; cases e; rfl
  | .bool i :: ds, _, ns, e, h => by
    cases h with
    | cons h t =>
      obtain ⟨ns', e1, rfl⟩ := Option.map_eq_some_iff.mp e
      rw [dp_bl h, dBools_v e1 t]
      rfl
  | .none :: _, _, _, e, _ => by cases e
  | .int _ :: _, _, _, e, _ => by cases e
  | .str _ :: _, _, _, e, _ => by cases e
  | .list _ :: _, _, _, e, _ => by cases e
  | .tuple _ :: _, _, _, e, _ => by cases e
  | .dict _ :: _, _, _, e, _ => by cases e
def Rv.intsD (a : Rv) : Option (List Int) := match a.dat with
  | some (.list xs) => dInts xs
  | _ => none
def Rv.bools (a : Rv) : Option (List Bool) := match a.dat with
  | some (.list xs) => dBools xs
  | _ => none
theorem RvOk.intsD {H0 : Hp} {h : Hs} {v : V} {a : Rv} {ns : List Int} (c : Ch h) (ok : RvOk K H0 h v a) (e : a.intsD = some ns) : ∃ p, v = .ref p ∧ SqL K h.H p (ns.map V.int) := by
  unfold Rv.intsD at e
  split at e
  · rename_i xs e1
    obtain ⟨p, vs, rfl, s, d⟩ := dp_lst (ok.dp c e1)
    rw [dInts_v e d] at s
    exact ⟨p, rfl, s⟩
  · cases e
theorem RvOk.bools {H0 : Hp} {h : Hs} {v : V} {a : Rv} {ns : List Bool} (c : Ch h) (ok : RvOk K H0 h v a) (e : a.bools = some ns) : ∃ p, v = .ref p ∧ SqL K h.H p (ns.map V.bl) := by
  unfold Rv.bools at e
  split at e
  · rename_i xs e1
    obtain ⟨p, vs, rfl, s, d⟩ := dp_lst (ok.dp c e1)
    rw [dBools_v e d] at s
    exact ⟨p, rfl, s⟩
  · cases e
def sumR (a : Rv) : Er Rv := match a.intsD with
  | some ns => .ok (.v (.int ns.sum))
  | none => .bad
theorem xsum (hc : X.calm = true) (hg : Gl X "sum") (hm : X.mg "sum" = none) (ha : PE X a (tX X.K W f)) (hs : starEach [a] X.env = (false, eval a X.env) :: starEach [] X.env := by rfl) : PE X (.Call (.Name "sum" p) [a] [] pos) (tX X.K W (unF sumR f)) := by
  refine peTo (pe_callB (cr_sum hc) hg hm boot_sum (pa_cons ha pa_nil hs) (he := hs)) (c1_of fun h0 h ρ σ x a Q R0 R g ok q => ?_)
  unfold sumR at q
  split at q
  · rename_i ns e
    obtain ⟨l, rfl, s⟩ := ok.intsD R.ch e
    exact ⟨l, ns, rfl, s, q.now R (.int _)⟩
  · exact q.elim
def allA (a : Rv) : Er Rv := match a.bools with
  | some ns => .ok (.v (.bool (ns.all id)))
  | none => .bad
def anyA (a : Rv) : Er Rv := match a.bools with
  | some ns => .ok (.v (.bool (ns.any id)))
  | none => .bad
theorem xall (hc : X.calm = true) (hg : Gl X "all") (hm : X.mg "all" = none) (ha : PE X a (tX X.K W f)) (hs : starEach [a] X.env = (false, eval a X.env) :: starEach [] X.env := by rfl) : PE X (.Call (.Name "all" p) [a] [] pos) (tX X.K W (unF allA f)) := by
  refine peTo (pe_callB (cr_all hc) hg hm boot_all (pa_cons ha pa_nil hs) (he := hs)) (c1_of fun h0 h ρ σ x a Q R0 R g ok q => ?_)
  unfold allA at q
  split at q
  · rename_i ns e
    obtain ⟨l, rfl, s⟩ := ok.bools R.ch e
    exact ⟨l, ns, rfl, s, q.now R (.bl _)⟩
  · exact q.elim
theorem xany (hc : X.calm = true) (hg : Gl X "any") (hm : X.mg "any" = none) (ha : PE X a (tX X.K W f)) (hs : starEach [a] X.env = (false, eval a X.env) :: starEach [] X.env := by rfl) : PE X (.Call (.Name "any" p) [a] [] pos) (tX X.K W (unF anyA f)) := by
  refine peTo (pe_callB (cr_any hc) hg hm boot_any (pa_cons ha pa_nil hs) (he := hs)) (c1_of fun h0 h ρ σ x a Q R0 R g ok q => ?_)
  unfold anyA at q
  split at q
  · rename_i ns e
    obtain ⟨l, rfl, s⟩ := ok.bools R.ch e
    exact ⟨l, ns, rfl, s, q.now R (.bl _)⟩
  · exact q.elim
/-- the least, the greatest -/
def lstMin : List Int → Int
  | [] => 0
  | x :: xs => xs.foldl min x
def lstMax : List Int → Int
  | [] => 0
  | x :: xs => xs.foldl max x
theorem foldl_min_le : ∀ (xs : List Int) (x : Int), xs.foldl min x ≤ x ∧ (∀ y ∈ xs, xs.foldl min x ≤ y) ∧ (xs.foldl min x = x ∨ xs.foldl min x ∈ xs)
  | [], x => ⟨Int.le_refl _, (fun _ h => by cases h), Or.inl rfl⟩
  | y :: ys, x => by
    obtain ⟨h1, h2, h3⟩ := foldl_min_le ys (min x y)
    refine ⟨?_, fun z hz => ?_, ?_⟩
    · show ys.foldl min (min x y) ≤ x
      omega
    · show ys.foldl min (min x y) ≤ z
      rcases List.mem_cons.mp hz with rfl | hz
      · omega
      · exact h2 z hz
    · show ys.foldl min (min x y) = x ∨ ys.foldl min (min x y) ∈ y :: ys
      rcases h3 with h3 | h3
      · rw [h3]
        by_cases hxy : x ≤ y
        · exact .inl (by omega)
        · exact .inr (by rw [show min x y = y by omega]; exact List.mem_cons_self)
      · exact .inr (List.mem_cons_of_mem _ h3)
theorem foldl_max_le : ∀ (xs : List Int) (x : Int), x ≤ xs.foldl max x ∧ (∀ y ∈ xs, y ≤ xs.foldl max x) ∧ (xs.foldl max x = x ∨ xs.foldl max x ∈ xs)
  | [], x => ⟨Int.le_refl _, (fun _ h => by cases h), Or.inl rfl⟩
  | y :: ys, x => by
    obtain ⟨h1, h2, h3⟩ := foldl_max_le ys (max x y)
    refine ⟨?_, fun z hz => ?_, ?_⟩
    · show x ≤ ys.foldl max (max x y)
      omega
    · show z ≤ ys.foldl max (max x y)
      rcases List.mem_cons.mp hz with rfl | hz
      · omega
      · exact h2 z hz
    · show ys.foldl max (max x y) = x ∨ ys.foldl max (max x y) ∈ y :: ys
      rcases h3 with h3 | h3
      · rw [h3]
        by_cases hxy : y ≤ x
        · exact .inl (by omega)
        · exact .inr (by rw [show max x y = y by omega]; exact List.mem_cons_self)
      · exact .inr (List.mem_cons_of_mem _ h3)
theorem lstMin_is {ns : List Int} {m : Int} (h1 : m ∈ ns) (h2 : ∀ y ∈ ns, m ≤ y) : m = lstMin ns := by
  cases ns with
  | nil => cases h1
  | cons x xs =>
    obtain ⟨a, b, c⟩ := foldl_min_le xs x
    have d : lstMin (x :: xs) ∈ x :: xs := by
      rcases c with c | c
      · show xs.foldl min x ∈ _
        rw [c]
        exact List.mem_cons_self
      · exact List.mem_cons_of_mem _ c
    have e := h2 _ d
    have f : lstMin (x :: xs) ≤ m := by
      rcases List.mem_cons.mp h1 with rfl | h1
      · exact a
      · exact b m h1
    omega
theorem lstMax_is {ns : List Int} {m : Int} (h1 : m ∈ ns) (h2 : ∀ y ∈ ns, y ≤ m) : m = lstMax ns := by
  cases ns with
  | nil => cases h1
  | cons x xs =>
    obtain ⟨a, b, c⟩ := foldl_max_le xs x
    have d : lstMax (x :: xs) ∈ x :: xs := by
      rcases c with c | c
      · show xs.foldl max x ∈ _
        rw [c]
        exact List.mem_cons_self
      · exact List.mem_cons_of_mem _ c
    have e := h2 _ d
    have f : m ≤ lstMax (x :: xs) := by
      rcases List.mem_cons.mp h1 with rfl | h1
      · exact a
      · exact b m h1
    omega
def minR (a : Rv) : Er Rv := match a.intsD with
  | some ns => if 0 < ns.length then .ok (.v (.int (lstMin ns))) else .bad
  | none => .bad
def maxR (a : Rv) : Er Rv := match a.intsD with
  | some ns => if 0 < ns.length then .ok (.v (.int (lstMax ns))) else .bad
  | none => .bad
theorem xmin1 (hc : X.calm = true) (hg : Gl X "min") (hm : X.mg "min" = none) (ha : PE X a (tX X.K W f)) (hs : starEach [a] X.env = (false, eval a X.env) :: starEach [] X.env := by rfl) : PE X (.Call (.Name "min" p) [a] [] pos) (tX X.K W (unF minR f)) := by
  refine peTo (pe_callB (cr_min hc) hg hm boot_min (pa_cons ha pa_nil hs) (he := hs)) (c1_of fun h0 h ρ σ x a Q R0 R g ok q => ?_)
  unfold minR at q
  split at q
  · rename_i ns e
    split at q
    · obtain ⟨l, rfl, s⟩ := ok.intsD R.ch e
      refine ⟨l, ns, rfl, s, by assumption, fun m h1 h2 => ?_⟩
      rw [lstMin_is h1 h2]
      exact q.now R (.int _)
    · exact q.elim
  · exact q.elim
theorem xmax1 (hc : X.calm = true) (hg : Gl X "max") (hm : X.mg "max" = none) (ha : PE X a (tX X.K W f)) (hs : starEach [a] X.env = (false, eval a X.env) :: starEach [] X.env := by rfl) : PE X (.Call (.Name "max" p) [a] [] pos) (tX X.K W (unF maxR f)) := by
  refine peTo (pe_callB (cr_max hc) hg hm boot_max (pa_cons ha pa_nil hs) (he := hs)) (c1_of fun h0 h ρ σ x a Q R0 R g ok q => ?_)
  unfold maxR at q
  split at q
  · rename_i ns e
    split at q
    · obtain ⟨l, rfl, s⟩ := ok.intsD R.ch e
      refine ⟨l, ns, rfl, s, by assumption, fun m h1 h2 => ?_⟩
      rw [lstMax_is h1 h2]
      exact q.now R (.int _)
    · exact q.elim
  · exact q.elim
/-- min(a, b), max(a, b) -/
def imin2 : Int → Int → Er D := fun i j => .ok (.int (if j < i then j else i))
def imax2 : Int → Int → Er D := fun i j => .ok (.int (if j > i then j else i))
theorem c2_of {φ : Rv → Rv → Er Rv} {r : List V → Hp → VK → Prop} (hr : OpOk K W φ (fun x y H Q => r [x, y] H Q)) : ∀ σ H Q, tX K W (binF φ f g) σ H Q → tCB r (tCons (tX K W f) (tCons (tX K W g) tNil)) σ H Q := by
  intro σ H Q q
  exact bin_of hr σ H Q q
theorem xmin2 (hc : X.calm = true) (hg : Gl X "min") (hm : X.mg "min" = none) (ha : PE X a (tX X.K W f)) (hb : PE X b (tX X.K W g)) (hs : starEach [a, b] X.env = (false, eval a X.env) :: starEach [b] X.env := by rfl) (hs2 : starEach [b] X.env = (false, eval b X.env) :: starEach [] X.env := by rfl) :
    PE X (.Call (.Name "min" p) [a, b] [] pos) (tX X.K W (binF (flat2 (int2 imin2)) f g)) :=
  peTo (pe_callB (call_min2 hc) hg hm boot_min (pa_cons ha (pa_cons hb pa_nil hs2) hs) (he := hs) (hpl := by rw [hs2]; rfl)) (c2_of (int_ok (fun _ _ _ _ e => nomatch e) (fun _ _ _ e => by cases e; rfl) fun H i j f Q e q => ⟨i, j, rfl, by cases e; exact q _ rfl⟩))
theorem xmax2 (hc : X.calm = true) (hg : Gl X "max") (hm : X.mg "max" = none) (ha : PE X a (tX X.K W f)) (hb : PE X b (tX X.K W g)) (hs : starEach [a, b] X.env = (false, eval a X.env) :: starEach [b] X.env := by rfl) (hs2 : starEach [b] X.env = (false, eval b X.env) :: starEach [] X.env := by rfl) :
    PE X (.Call (.Name "max" p) [a, b] [] pos) (tX X.K W (binF (flat2 (int2 imax2)) f g)) :=
  peTo (pe_callB (call_max2 hc) hg hm boot_max (pa_cons ha (pa_cons hb pa_nil hs2) hs) (he := hs) (hpl := by rw [hs2]; rfl)) (c2_of (int_ok (fun _ _ _ _ e => nomatch e) (fun _ _ _ e => by cases e; rfl) fun H i j f Q e q => ⟨i, j, rfl, by cases e; exact q _ rfl⟩))
/-- sorted(xs), whole numbers -/
def srt (ns : List Int) : List Int := ns.mergeSort fun a b => decide (a ≤ b)
theorem srt_perm (ns : List Int) : (srt ns).Perm ns := List.mergeSort_perm _ _
theorem srt_le (ns : List Int) : (srt ns).Pairwise (· ≤ ·) := by
  have h := List.pairwise_mergeSort (le := fun a b : Int => decide (a ≤ b)) (fun a b c h1 h2 => by simp at *; omega) (fun a b => by simp; omega) ns
  exact h.imp fun h => by simpa using h
theorem perm_sorted_eq : ∀ {xs ys : List Int}, xs.Perm ys → xs.Pairwise (· ≤ ·) → ys.Pairwise (· ≤ ·) → xs = ys
  | [], ys, h, _, _ => (List.Perm.nil_eq h)
  | x :: xs, [], h, _, _ => by have := h.length_eq; simp at this
  | x :: xs, y :: ys, h, h1, h2 => by
    have hx : x ∈ y :: ys := h.subset List.mem_cons_self
    have hy : y ∈ x :: xs := h.symm.subset List.mem_cons_self
    have a1 : x ≤ y := by
      rcases List.mem_cons.mp hy with e | e
      · omega
      · exact (List.pairwise_cons.mp h1).1 y e
    have a2 : y ≤ x := by
      rcases List.mem_cons.mp hx with e | e
      · omega
      · exact (List.pairwise_cons.mp h2).1 x e
    have e : x = y := by omega
    subst e
    rw [perm_sorted_eq (List.Perm.cons_inv h) (List.pairwise_cons.mp h1).2 (List.pairwise_cons.mp h2).2]
def sortR (a : Rv) : Er Rv := match a.intsD with
  | some ns => .ok (.o ((srt ns).map .int))
  | none => .bad
theorem ints_all {H : Hp} : ∀ ns : List Int, DpAll K H (ns.map V.int) (ns.map PyData.int)
  | [] => .nil
  | n :: ns => .cons (.int n) (ints_all ns)
theorem xsorted (hg : Gl X "sorted") (hm : X.mg "sorted" = none) (ha : PE X a (tX X.K W f)) (hs : starEach [a] X.env = (false, eval a X.env) :: starEach [] X.env := by rfl) : PE X (.Call (.Name "sorted" p) [a] [] pos) (tX X.K W (unF sortR f)) := by
  refine peTo (pe_callB cr_sortedI hg hm boot_sorted (pa_cons ha pa_nil hs) (he := hs)) (c1_of fun h0 h ρ σ x a Q R0 R g ok q => ?_)
  unfold sortR at q
  split at q
  · rename_i ns e
    obtain ⟨l, rfl, s⟩ := ok.intsD R.ch e
    refine ⟨l, ns, rfl, s, fun ns' p h1 h2 hp => ?_⟩
    have e2 : ns' = srt ns := perm_sorted_eq (h1.trans (srt_perm ns).symm) h2 (srt_le ns)
    subst e2
    exact q.newL R (ints_all _) hp
  · exact q.elim
/-! isinstance(x, T), T built in -/
def tyD : D → Option String
  | .none => some "NoneType"
  | .bool _ => some "bool"
  | .int _ => some "int"
  | .str _ => some "str"
  | .list _ => some "list"
  | .tuple _ => some "tuple"
  | .dict _ => none
theorem tyx_of {H : Hp} {v : V} {d : D} {n : String} (h : Dp K H v d) (e : tyD d = some n) : TyX K H v (.type n) := by
  cases h with
  | non => cases e; exact .base .non
  | bl b => cases e; exact .base (.bl b)
  | int i => cases e; exact .base (.int i)
  | str x => cases e; exact .base (.str x)
  | lst hs _ =>
    cases e
    rcases hs with (hs | ⟨o, hs⟩) | ⟨o, its, n, hk, hc, _⟩
    · exact .base (.lst hs)
    · exact .base (.frz hs)
    · exact .kList hk hc
  | tup hs _ =>
    cases e
    rcases hs with (hs | ⟨o, hs⟩) | ⟨o, its, n, hk, hc, _⟩
    · exact .base (.tup hs)
    · exact .fTuple hs
    · exact .kTuple hk hc
def isiR (T : String) (a : Rv) : Er Rv := match a.dat with
  | some d => match tyD d with
    | some n => match kitB n T with
      | some b => .ok (.v (.bool b))
      | none => .bad
    | none => .bad
  | none => .bad
theorem xisi {x T : String} {pT : Pos} (hg : Gl X "isinstance") (hm : X.mg "isinstance" = none) (ha : PE X a (tX X.K W f)) (hgT : Gl X (Str.ofString x)) (hmT : X.mg (Str.ofString x) = none) (hv : bootBuiltins (Str.ofString x) = some (.type T))
    (hn : Str.ofString x ≠ "__name__" := by decide) (hd : (Str.ofString x == ("__debug__" : Str)) = false := by decide)
    (hs : starEach [a, .Name (Str.ofString x) pT] X.env = (false, eval a X.env) :: starEach [.Name (Str.ofString x) pT] X.env := by rfl) (hs2 : starEach [.Name (Str.ofString x) pT] X.env = (false, eval (.Name (Str.ofString x) pT) X.env) :: starEach [] X.env := by rfl) :
    PE X (.Call (.Name "isinstance" p) [a, .Name (Str.ofString x) pT] [] pos) (tX X.K W (unF (isiR T) f)) := by
  have hT : PE X (.Name (Str.ofString x) pT) (tC (.ty T)) := pe_bltn hgT hmT hv rfl hn hd
  refine peTo (pe_callB call_isi hg hm boot_isinstance (pa_cons ha (pa_cons hT pa_nil hs2) hs) (he := hs) (hpl := by rw [hs2]; rfl)) fun σ H Q q => ?_
  obtain ⟨h, ρ, rfl, R, q⟩ := tX_iff.mp q
  refine (tX_mk (f := f) R (q.bind fun a v h1 _ R1 g1 ok1 q1 => ?_) : tX X.K W f σ h.H _)
  unfold isiR at q1
  split at q1
  · rename_i d e
    split at q1
    · rename_i n en
      split at q1
      · rename_i b eb
        exact ⟨v, .ty T, .type n, .type T, b, rfl, .ty T, tyx_of (ok1.dp R1.ch e) en, kit_ty eb, q1.now R1 (.bl _)⟩
      · exact q1.elim
    · exact q1.elim
  · exact q1.elim
end
end Sq

/-! Statements. -/
namespace Sq
open PySem PySem.Spec PyProof.Rows L2
inductive Res where
  | next (ρ : Env)
  | ret (r : Rv)
  | brk (ρ : Env)
  | cont (ρ : Env)
  | exc (c : Str) (p : Option (Str × D)) (ρ : Env)
  | bad
abbrev SF := Env → Res
def RetOk (K : PySem.W.Frag) (h : Hs) (v : V) : Rv → Prop
  | .v d => Dp K h.G v d
  | .b d => Dp K h.F v d
  | .o xs => ∃ l vs, v = .ref l ∧ h.H l = some (.lst vs) ∧ h.F l = none ∧ DpAll K h.G vs xs
  | .ok kvs => ∃ l vs, v = .ref l ∧ h.H l = some (.dK vs) ∧ h.F l = none ∧ KvD K h.G vs kvs
  | .p2 xs ys => ∃ t l m vs ws, v = .ref t ∧ h.H t = some (.tup [.ref l, .ref m]) ∧ l ≠ m ∧ (h.H l = some (.lst vs) ∧ h.F l = none ∧ DpAll K h.G vs xs) ∧ (h.H m = some (.lst ws) ∧ h.F m = none ∧ DpAll K h.G ws ys)
  | _ => False
def Post (K : PySem.W.Frag) (W : WF) (D : Ends) (h : Hs) : Res → Prop
  | .next ρ' => ∀ σ' h', Rel K h' ρ' σ' → SG h h' → D.nx σ' h'.H
  | .brk ρ' => ∀ σ' h', Rel K h' ρ' σ' → SG h h' → D.bk σ' h'.H
  | .cont ρ' => ∀ σ' h', Rel K h' ρ' σ' → SG h h' → D.ct σ' h'.H
  | .ret r => ∀ v h', Ch h' → SG h h' → RetOk K h' v r → D.rt v h'.H
  | .exc c p ρ' => ∀ σ' h', Rel K h' ρ' σ' → SG h h' → W c p σ' h'
  | .bad => False
def tS (K : PySem.W.Frag) (W : WF) (f : SF) : TS := fun D σ H => ∃ h ρ, h.H = H ∧ Rel K h ρ σ ∧ Post K W D h (f ρ)
section
variable {K : PySem.W.Frag} {W : WF} {X : Cx} {D D' : Ends} {h h1 : Hs} {ρ : Env} {σ : L2.St}
theorem Post.shift (g : SG h h1) : ∀ {r : Res}, Post K W D h r → Post K W D h1 r
  | .next _, q => fun σ' h' R g' => q σ' h' R (g.trans g')
  | .brk _, q => fun σ' h' R g' => q σ' h' R (g.trans g')
  | .cont _, q => fun σ' h' R g' => q σ' h' R (g.trans g')
  | .ret _, q => fun v h' c g' => q v h' c (g.trans g')
  | .exc _ _ _, q => fun σ' h' R g' => q σ' h' R (g.trans g')
  | .bad, q => q
theorem tS_mk {f : SF} (R : Rel K h ρ σ) (q : Post K W D h (f ρ)) : tS K W f D σ h.H := ⟨h, ρ, rfl, R, q⟩
def liftE (ρ : Env) : Er Env → Res
  | .ok ρ' => .next ρ'
  | .exc c p => .exc c p ρ
  | .bad => .bad
/-- an expression ahead of the rest of a statement -/
def thenS (ρ : Env) (e : Er Rv) (k : Rv → Res) : Res := match e with
  | .ok r => k r
  | .exc c p => .exc c p ρ
  | .bad => .bad
def thenT (ρ : Env) (e : Er Bool) (k : Bool → Res) : Res := match e with
  | .ok r => k r
  | .exc c p => .exc c p ρ
  | .bad => .bad
theorem Post.then {e : Er Rv} {k : Rv → Res} (q : Post K W D h (thenS ρ e k)) {Q : VK} (hk : ∀ r v h', e = .ok r → Rel K h' ρ σ → Gr h h' → RvOk K h.H h' v r → Post K W D h (k r) → Q v h'.H) : PE1 K W h ρ σ Q e := by
  cases e with
  | ok r => exact fun v h' R g ok => hk r v h' rfl R g ok q
  | exc c p => exact fun h' R g => q σ h' R g.sg
  | bad => exact q
theorem Post.thenT {e : Er Bool} {k : Bool → Res} (q : Post K W D h (thenT ρ e k)) {Q : Bool → Hp → Prop} (hk : ∀ r h', e = .ok r → Rel K h' ρ σ → Gr h h' → Post K W D h' (k r) → Q r h'.H) : PT1 K W h ρ σ Q e := by
  cases e with
  | ok r => exact fun h' R g => hk r h' rfl R g (Post.shift g.sg q)
  | exc c p => exact fun h' R g => q σ h' R g.sg
  | bad => exact q

/-! ### blocks -/
def skipS : SF := fun ρ => .next ρ
def seqS (f g : SF) : SF := fun ρ => match f ρ with
  | .next ρ' => g ρ'
  | r => r
theorem xssnil : PSs X [] (tS X.K W skipS) := pssTo pss_nil fun D σ H ⟨h, ρ, e, R, q⟩ => by
  subst e
  exact q σ h R (SG.refl h)
theorem xsscons {st : Stmt} {rest : List Stmt} {f g : SF} (h1 : PS X st (tS X.K W f)) (h2 : PSs X rest (tS X.K W g)) : PSs X (st :: rest) (tS X.K W (seqS f g)) := by
  refine pssTo (pss_cons h1 h2) fun D σ H ⟨h, ρ, e, R, q⟩ => ?_
  subst e
  refine tS_mk R ?_
  unfold seqS at q
  cases ef : f ρ with
  | next ρ' =>
    rw [ef] at q
    exact fun σ' h' R' g' => tS_mk R' (Post.shift g' q)
  | ret r => rw [ef] at q; exact q
  | brk ρ' => rw [ef] at q; exact q
  | cont ρ' => rw [ef] at q; exact q
  | exc c p ρ' => rw [ef] at q; exact q
  | bad => rw [ef] at q; exact q
theorem xssone {st : Stmt} {f : SF} (h1 : PS X st (tS X.K W f)) : PSs X [st] (tS X.K W f) := pss_one h1
/-- what is the same for every environment -/
theorem xssTo {sts : List Stmt} {f g : SF} (h1 : PSs X sts (tS X.K W f)) (e : ∀ ρ, f ρ = g ρ) : PSs X sts (tS X.K W g) := by
  have : f = g := funext e
  subst this
  exact h1
/-- ghost: own objects of a slot are frozen -/
def Sl.frz : Sl → Sl
  | .o xs => .v (.list xs)
  | s => s
def frzE (ρ : Env) (i : Nat) : Env := ρ.set i (slot ρ i).frz
def frzS (i : Nat) (f : SF) : SF := fun ρ => f (frzE ρ i)
theorem frzE_ok (R : Rel K h ρ σ) (i : Nat) : ∃ h', h'.H = h.H ∧ Rel K h' (frzE ρ i) σ ∧ SG h h' := by
  have same : ∀ s, slot ρ i = s → s.frz = s → ∃ h', h'.H = h.H ∧ Rel K h' (frzE ρ i) σ ∧ SG h h' := fun s e1 e2 => by
    refine ⟨h, rfl, ?_, SG.refl h⟩
    have : frzE ρ i = ρ ∨ ρ.length ≤ i := by
      by_cases hi : i < ρ.length
      · left
        unfold frzE
        rw [e1, e2]
        apply List.ext_getElem?
        intro k
        rw [List.getElem?_set]
        split
        · rename_i hk
          subst hk
          unfold slot at e1
          rw [List.getD_eq_getElem?_getD, List.getElem?_eq_getElem hi] at e1
          rw [List.getElem?_eq_getElem hi]
          exact congrArg some e1.symm
        · rfl
      · exact .inr (by omega)
    rcases this with e | e
    · rw [e]; exact R
    · unfold frzE
      rw [List.set_eq_of_length_le e]
      exact R
  cases es : slot ρ i with
  | u => exact same _ es rfl
  | x a => exact same _ es rfl
  | v d => exact same _ es rfl
  | b d => exact same _ es rfl
  | k d => exact same _ es rfl
  | t d => exact same _ es rfl
  | o xs =>
    have ei := slot_some es (by intro z; cases z)
    obtain ⟨x, ex, l, vs, rfl, hl, fl, hd⟩ := R.get ei
    have hi : i < ρ.length := (List.getElem?_eq_some_iff.mp ei).1
    refine ⟨h.fz l (.lst vs), rfl, ⟨R.ch.fz hl, by simp [frzE, R.len], fun j s x e1 e2 => ?_, fun j k s u m n hjk e1 e2 o1 o2 e3 e4 => ?_⟩, ⟨Ex.new (R.ch.gf.back fl), Ex.new fl, fun a o e z => by
      obtain ⟨rfl, _⟩ := upd_case e z
      exact fl⟩⟩
    · unfold frzE at e1
      rw [es] at e1
      by_cases hj : i = j
      · subst hj
        rw [List.getElem?_set] at e1
        simp only [if_true, hi] at e1
        cases e1
        rw [ex] at e2
        cases e2
        exact ⟨_, rfl, .lst (.of upd_same) (ex_dpa (Ex.new (R.ch.gf.back fl)) hd)⟩
      · rw [List.getElem?_set_ne hj] at e1
        have q := R.at_ j s x e1 e2
        have hm : ∀ m, s.own = true → x = some (.ref m) → m ≠ l := fun m os e z => by
          subst z
          exact R.dis i j (.o xs) s m m hj ei e1 rfl os ex (by rw [e2, e]) rfl
        cases s with
        | u => trivial
        | x a => exact q
        | v d =>
          obtain ⟨v, e, q⟩ := q
          exact ⟨v, e, ex_dp (Ex.new (R.ch.gf.back fl)) q⟩
        | b d =>
          obtain ⟨v, e, q⟩ := q
          exact ⟨v, e, ex_dp (Ex.new fl) q⟩
        | o ys =>
          obtain ⟨m, ws, e, a, b, q⟩ := q
          exact ⟨m, ws, e, a, (upd_ne (hm m rfl e)).trans b, ex_dpa (Ex.new (R.ch.gf.back fl)) q⟩
        | k ys =>
          obtain ⟨m, ws, e, a, b, q⟩ := q
          exact ⟨m, ws, e, a, (upd_ne (hm m rfl e)).trans b, q.ex (Ex.new (R.ch.gf.back fl))⟩
        | t ys =>
          obtain ⟨m, ws, e, a, b, q⟩ := q
          exact ⟨m, ws, e, a, (upd_ne (hm m rfl e)).trans b, q.ex (Ex.new (R.ch.gf.back fl))⟩
    · unfold frzE at e1 e2
      rw [es] at e1 e2
      have nj : i ≠ j := fun z => by
        subst z
        rw [List.getElem?_set] at e1
        simp only [if_true, hi] at e1
        cases e1
        cases o1
      have nk : i ≠ k := fun z => by
        subst z
        rw [List.getElem?_set] at e2
        simp only [if_true, hi] at e2
        cases e2
        cases o2
      rw [List.getElem?_set_ne nj] at e1
      rw [List.getElem?_set_ne nk] at e2
      exact R.dis j k s u m n hjk e1 e2 o1 o2 e3 e4
theorem xfrz {sts : List Stmt} {f : SF} (i : Nat) (h1 : PSs X sts (tS X.K W f)) : PSs X sts (tS X.K W (frzS i f)) := pssTo h1 fun D σ H ⟨h, ρ, e, R, q⟩ => by
  subst e
  obtain ⟨h', eh, R', g⟩ := frzE_ok R i
  rw [← eh]
  exact tS_mk R' (Post.shift g q)

/-! ### small statements -/
theorem xpass {pos : Pos} : PS X (.Pass pos) (tS X.K W skipS) := psTo ps_pass fun D σ H ⟨h, ρ, e, R, q⟩ => by
  subst e
  exact q σ h R (SG.refl h)
def brkS : SF := fun ρ => .brk ρ
def contS : SF := fun ρ => .cont ρ
def badS : SF := fun _ => .bad
theorem xbreak {pos : Pos} : PS X (.Break pos) (tS X.K W brkS) := psTo ps_break fun D σ H ⟨h, ρ, e, R, q⟩ => by
  subst e
  exact q σ h R (SG.refl h)
theorem xcontinue {pos : Pos} : PS X (.Continue pos) (tS X.K W contS) := psTo ps_continue fun D σ H ⟨h, ρ, e, R, q⟩ => by
  subst e
  exact q σ h R (SG.refl h)
theorem xnever {st : Stmt} : PS X st (tS X.K W badS) := psTo ps_never fun D σ H ⟨h, ρ, e, R, q⟩ => q
def exprS (f : EF) : SF := fun ρ => thenS ρ (f ρ) fun _ => .next ρ
theorem xexpr {e : Expr} {f : EF} {pos : Pos} (he : PE X e (tX X.K W f)) (hs : swapsWith e none pos.line X.env = pure false := by rfl) : PS X (.Expr e pos) (tS X.K W (exprS f)) := psTo (ps_expr he hs) fun D σ H ⟨h, ρ, e, R, q⟩ => by
  subst e
  exact tX_mk R (q.then fun r v h' _ R' g' _ q' => q' σ h' R' g'.sg)
/-- x = e -/
def asgS (f : EF) (φ : TF) : SF := fun ρ => thenS ρ (f ρ) fun r => liftE ρ (φ r ρ)
theorem asg_of {f : EF} {φ : TF} {fp : List Nat} (hφ : ∀ r ρ c p, φ r ρ ≠ .exc c p) : ∀ D σ H, tS K W (asgS f φ) D σ H → tAsg (tX K W f) (tG K fp φ) D σ H := fun D σ H ⟨h, ρ, e, R, q⟩ => by
  subst e
  refine tX_mk R (q.then fun r v h' _ R' g' ok q' => ?_)
  cases e1 : φ r ρ with
  | bad => rw [e1] at q'; exact q'.elim
  | exc c p => exact absurd e1 (hφ _ _ _ _)
  | ok ρ' =>
    rw [e1] at q'
    exact ⟨h, h', ρ, r, ρ', rfl, R, R', ok, e1, fun σ' R2 _ => q' σ' h' R2 g'.sg⟩
theorem xasg {tg e : Expr} {f : EF} {φ : TF} {fp : List Nat} {pos : Pos} (hφ : ∀ r ρ c p, φ r ρ ≠ .exc c p) (he : PE X e (tX X.K W f)) (hg : PG X tg (tG X.K fp φ)) (hs : swapsWithSole [tg] e pos.line X.env = pure false := by rfl) (hw : swappedStores [tg] e X.env = pure none := by rfl)
    (h1 : (assignEach [tg] X.env).map (·.2) = [assign tg X.env] := by rfl) : PS X (.Assign [tg] e pos) (tS X.K W (asgS f φ)) := psTo (ps_asg he hg hs hw h1) (asg_of hφ)
theorem xset {i : Nat} {x : Str} {e : Expr} {f : EF} {pos pos' : Pos} (hN : X.N.Nodup) (he : PE X e (tX X.K W f)) (hi : X.N[i]? = some x := by rfl) (hx : Loc X.env.scope x := by first | exact Or.inl rfl | exact Or.inr rfl) (hs : swapsWith e (some (.Name x pos')) pos.line X.env = pure false := by rfl)
    (hf : X.fn x = true ∨ X.env.scope.names.lookup x = some .local := by first | exact .inl rfl | exact .inr rfl | assumption) : PS X (.Assign [.Name x pos'] e pos) (tS X.K W (asgS f (asgn i))) :=
  psTo (ps_set hN hi hx he hs hf) fun D σ H ⟨h, ρ, e, R, q⟩ => by
    subst e
    refine tX_mk R (q.then fun r v h' _ R' g' ok q' => ?_)
    cases e1 : asgn i r ρ with
    | bad => rw [e1] at q'; exact q'.elim
    | exc c p => exact absurd e1 (asgn_ne _ _ _ _)
    | ok ρ' =>
      rw [e1] at q'
      exact q' _ h' (asgn_ok R R' ok e1) g'.sg
/-- y = [.. for ..] -/
theorem xsetLc {elt tg iter : Expr} {ifs : List Expr} {scope : Scope} {own : List (Str × Nat)} {pos spos py : Pos} {it : IF} {φ : TF} {t : Env → Er Bool} {e : EF} {i : Nat} {y : Str} (hc : X.calm = true) (hN : X.N.Nodup) (hφ : ∀ r ρ c p, φ r ρ ≠ .exc c p) (hi : PI X tg iter (tI Gr X.K W it)) (ok : BlkOk X.N X.env.scope scope own) (hg : BlkG X scope tg (tG X.K (own.map (·.2)) φ)) (ht : BlkT X scope ifs (tXt X.K WN t)) (he : BlkE X scope elt (tX X.K WN e))
    (hsw : swapsWith (.ListComp elt [⟨tg, iter, ifs, 0⟩] scope pos) (some (.Name y py)) spos.line X.env = pure true) (hy : X.N[i]? = some y := by rfl) (hyl : X.env.scope.names.lookup y = some .local := by rfl)
    (hs : ∀ x, foldedSetIterable iter X.env x = pure x := by intro _; rfl) : PS X (.Assign [.Name y py] (.ListComp elt [⟨tg, iter, ifs, 0⟩] scope pos) spos) (tS X.K W (asgS (lcF it φ (own.map (·.2)) t e) (asgn i))) :=
  psTo (xsetLcT hc hN hy hyl hsw hφ hi ok hg ht he hs) fun D σ H ⟨h, ρ, e, R, q⟩ => by
    subst e
    refine tX_mk R (q.then fun r v h' _ R' g' ok q' => ?_)
    cases e1 : asgn i r ρ with
    | bad => rw [e1] at q'; exact q'.elim
    | exc c p => exact absurd e1 (asgn_ne _ _ _ _)
    | ok ρ' =>
      rw [e1] at q'
      exact q' _ h' (asgn_ok R R' ok e1) g'.sg
/-- return e -/
def retR (r : Rv) : Res := match r with
  | .v d => .ret (.v d)
  | .b d => .ret (.b d)
  | .o xs => .ret (.o xs)
  | .ok kvs => .ret (.ok kvs)
  | .r d => if flatD d = true then .ret (.v d) else .bad
  | _ => .bad
def retS (f : EF) : SF := fun ρ => thenS ρ (f ρ) retR
theorem ret_of {r : Rv} {v : V} {h' : Hs} (q : Post K W D h (retR r)) (c : Ch h') (g : SG h h') (H0 : Hp) (ok : RvOk K H0 h' v r) : D.rt v h'.H := by
  unfold retR at q
  split at q
  · exact q v h' c g ok
  · exact q v h' c g ok
  · obtain ⟨l, vs, e, _, a, b, d⟩ := ok
    exact q v h' c g ⟨l, vs, e, a, b, d⟩
  · obtain ⟨l, vs, e, _, a, b, d⟩ := ok
    exact q v h' c g ⟨l, vs, e, a, b, d⟩
  · split at q
    · exact q v h' c g (dp_flatG (by assumption) ok)
    · exact q.elim
  · exact q.elim
theorem xret {e : Expr} {f : EF} {pos : Pos} (he : PE X e (tX X.K W f)) : PS X (.Return (some e) pos) (tS X.K W (retS f)) := psTo (ps_ret he) fun D σ H ⟨h, ρ, e, R, q⟩ => by
  subst e
  exact tX_mk R (q.then fun r v h' _ R' g' ok q' => ret_of q' R'.ch g'.sg _ ok)
def retVar (i : Nat) : SF := fun ρ => match slot ρ i with
  | .v d => .ret (.v d)
  | .b d => .ret (.b d)
  | .o xs => .ret (.o xs)
  | .k kvs => .ret (.ok kvs)
  | _ => .bad
theorem xretv (i : Nat) {x : Str} {pos p2 : Pos} (hN : X.N[i]? = some x := by rfl) (hv : Vis X.env.scope x := by first | exact Or.inl rfl | exact Or.inr (Or.inl rfl) | exact Or.inr (Or.inr rfl)) (hd : (x == ("__debug__" : Str)) = false := by decide)
    (hcd : (x == ("__classdict__" : Str)) = false := by decide) : PS X (.Return (some (.Name x pos)) p2) (tS X.K W (retVar i)) := psTo (ps_ret (pe_var hN hv hd hcd)) fun D σ H ⟨h, ρ, e, R, q⟩ => by
  subst e
  unfold retVar at q
  split at q
  · rename_i d es
    obtain ⟨x, ex, v, rfl, ok⟩ := R.get (slot_some es (by intro z; cases z))
    exact ⟨v, ex, q v h R.ch (SG.refl h) ok⟩
  · rename_i d es
    obtain ⟨x, ex, v, rfl, ok⟩ := R.get (slot_some es (by intro z; cases z))
    exact ⟨v, ex, q v h R.ch (SG.refl h) ok⟩
  · rename_i d es
    obtain ⟨x, ex, l, vs, rfl, a, b, c⟩ := R.get (slot_some es (by intro z; cases z))
    exact ⟨_, ex, q _ h R.ch (SG.refl h) ⟨l, vs, rfl, a, b, c⟩⟩
  · rename_i d es
    obtain ⟨x, ex, l, vs, rfl, a, b, c⟩ := R.get (slot_some es (by intro z; cases z))
    exact ⟨_, ex, q _ h R.ch (SG.refl h) ⟨l, vs, rfl, a, b, c⟩⟩
  · exact q.elim
/-- if -/
def ifS (t : Env → Er Bool) (f g : SF) : SF := fun ρ => thenT ρ (t ρ) fun b => if b = true then f ρ else g ρ
theorem xifs {c : Expr} {a b : List Stmt} {t : Env → Er Bool} {f g : SF} {pos : Pos} (hc : PT X c (tXt X.K W t)) (ha : PSs X a (tS X.K W f)) (hb : PSs X b (tS X.K W g)) : PS X (.If c a b pos) (tS X.K W (ifS t f g)) := psTo (ps_if hc ha hb) fun D σ H ⟨h, ρ, e, R, q⟩ => by
  subst e
  refine tXt_mk R (q.thenT fun r h' _ R' g' q' => ?_)
  cases r with
  | true =>
    rw [if_pos rfl] at q' ⊢
    exact tS_mk R' q'
  | false =>
    rw [if_neg (by decide)] at q' ⊢
    exact tS_mk R' q'
/-- for -/
def forL (φ : TF) (f : SF) : List Rv → SF
  | [], ρ => .next ρ
  | r :: rs, ρ => match φ r ρ with
    | .ok ρ1 => match f ρ1 with
      | .next ρ' => forL φ f rs ρ'
      | .cont ρ' => forL φ f rs ρ'
      | .brk ρ' => .next ρ'
      | x => x
    | _ => .bad
def thenI (ρ : Env) (e : Er (List Rv)) (k : List Rv → Res) : Res := match e with
  | .ok r => k r
  | .exc c p => .exc c p ρ
  | .bad => .bad
def forS (it : IF) (φ : TF) (f : SF) : SF := fun ρ => thenI ρ (it ρ) fun rs => forL φ f rs ρ
theorem xfor {iter tg : Expr} {body : List Stmt} {it : IF} {φ : TF} {fp : List Nat} {f : SF} {pos : Pos} (hp : PassesOwn (model X.prog X.w) X.A X.env X.xe) (hc : X.calm = true) (hi : PI X tg iter (tI SG X.K W it)) (hg : PG X tg (tG X.K fp φ)) (hb : PSs X body (tS X.K W f))
    (hs : ∀ x, foldedSetIterable iter X.env x = pure x := by intro _; rfl) : PS X (.For tg iter body [] pos) (tS X.K W (forS it φ f)) := psTo (ps_for hp hc hi hg hb hs) fun D σ H ⟨h, ρ, e, R, q⟩ => by
  subst e
  refine ⟨h, ρ, rfl, R, ?_⟩
  unfold forS at q
  cases ei : it ρ with
  | bad => rw [ei] at q; exact q
  | exc c p =>
    rw [ei] at q
    exact fun h' R' g' => q σ h' R' g'.sg
  | ok rs =>
    rw [ei] at q
    have q : Post X.K W D h (forL φ f rs ρ) := q
    intro J h1 R1 g1 iok
    refine ⟨fun i m σ' H' => m = rs.length - i ∧ i ≤ rs.length ∧ ∃ h' ρ', h'.H = H' ∧ Rel X.K h' ρ' σ' ∧ SG h1 h' ∧ Post X.K W D h' (forL φ f (rs.drop i) ρ'), ⟨rs.length, by omega, Nat.zero_le _, h1, ρ, rfl, R1, SG.refl _, Post.shift g1.sg q⟩, ?_⟩
    rintro i m σ' H' ⟨em, hi, h2, ρ2, rfl, R2, g2, q2⟩
    by_cases hlt : i < rs.length
    · refine .inr ⟨iok.go i h2 g2 R2.ch hlt, fun σ3 H3 => ∃ h' ρ', h'.H = H3 ∧ Rel X.K h' ρ' σ3 ∧ SG h1 h' ∧ Post X.K W D h' (forL φ f (rs.drop (i + 1)) ρ'), fun σ3 H3 n => ⟨_, by omega, rfl, hlt, n⟩, fun x H3 y => ?_⟩
      obtain ⟨h3, r, rfl, g3, c3, er, okr⟩ := iok.yld i h2 x H3 g2 R2.ch hlt y
      have edrop : rs.drop i = r :: rs.drop (i + 1) := by
        obtain ⟨hh, e2⟩ := List.getElem?_eq_some_iff.mp er
        rw [List.drop_eq_getElem_cons hh, e2]
      rw [edrop] at q2
      unfold forL at q2
      have R3 : Rel X.K h3 ρ2 σ' := R2.grow g3 c3
      cases e1 : φ r ρ2 with
      | bad => rw [e1] at q2; exact q2.elim
      | exc c p => rw [e1] at q2; exact q2.elim
      | ok ρ4 =>
        rw [e1] at q2
        dsimp only at q2
        refine ⟨h3, h3, ρ2, r, ρ4, rfl, R3, R3, okr.rv, e1, fun σ4 R4 _ => tS_mk R4 ?_⟩
        have q3 := Post.shift g3.sg q2
        cases ef : f ρ4 with
        | next ρ5 =>
          rw [ef] at q3
          exact fun σ5 h5 R5 g5 => ⟨h5, ρ5, rfl, R5, (g2.trans g3.sg).trans g5, Post.shift g5 q3⟩
        | cont ρ5 =>
          rw [ef] at q3
          exact fun σ5 h5 R5 g5 => ⟨h5, ρ5, rfl, R5, (g2.trans g3.sg).trans g5, Post.shift g5 q3⟩
        | brk ρ5 =>
          rw [ef] at q3
          exact fun σ5 h5 R5 g5 => q3 σ5 h5 R5 g5
        | ret r =>
          rw [ef] at q3
          exact q3
        | exc c p ρ5 =>
          rw [ef] at q3
          exact q3
        | bad =>
          rw [ef] at q3
          exact q3
    · have hi' : i = rs.length := by omega
      subst hi'
      rw [List.drop_length] at q2
      exact .inl ⟨iok.stop _ h2 g2 R2.ch (Nat.le_refl _), q2 σ' h2 R2 (SG.refl _)⟩
/-- while -/
def whileN (t : Env → Er Bool) (f : SF) : Nat → SF
  | 0, _ => .bad
  | n + 1, ρ => thenT ρ (t ρ) fun b => if b = true then (match f ρ with
      | .next ρ' => whileN t f n ρ'
      | .cont ρ' => whileN t f n ρ'
      | .brk ρ' => .next ρ'
      | x => x) else .next ρ
def whileS (t : Env → Er Bool) (f : SF) : SF := whileN t f 1000000
theorem xwhile {c : Expr} {body : List Stmt} {t : Env → Er Bool} {f : SF} {pos : Pos} (hp : PassesOwn (model X.prog X.w) X.A X.env X.xe) (hc : PT X c (tXt X.K W t)) (hb : PSs X body (tS X.K W f)) : PS X (.While c body [] pos) (tS X.K W (whileS t f)) := psTo (ps_while hp hc hb) fun D σ H ⟨h, ρ, e, R, q⟩ => by
  subst e
  refine ⟨fun m σ' H' => ∃ h' ρ', h'.H = H' ∧ Rel X.K h' ρ' σ' ∧ Post X.K W D h' (whileN t f m ρ'), ⟨1000000, h, ρ, rfl, R, q⟩, ?_⟩
  rintro m σ' H' ⟨h2, ρ2, rfl, R2, q2⟩
  cases m with
  | zero => exact q2.elim
  | succ m =>
    unfold whileN at q2
    refine tXt_mk R2 (q2.thenT fun r h3 _ R3 g3 q3 => ?_)
    cases r with
    | false =>
      rw [if_neg (by decide)] at q3 ⊢
      exact q3 σ' h3 R3 (SG.refl _)
    | true =>
      rw [if_pos rfl] at q3 ⊢
      refine ⟨fun σ3 H3 => ∃ h' ρ', h'.H = H3 ∧ Rel X.K h' ρ' σ3 ∧ Post X.K W D h' (whileN t f m ρ'), fun σ3 H3 n => ⟨m, Nat.lt_succ_self m, n⟩, tS_mk R3 ?_⟩
      cases ef : f ρ2 with
      | next ρ5 =>
        rw [ef] at q3
        exact fun σ5 h5 R5 g5 => ⟨h5, ρ5, rfl, R5, Post.shift g5 q3⟩
      | cont ρ5 =>
        rw [ef] at q3
        exact fun σ5 h5 R5 g5 => ⟨h5, ρ5, rfl, R5, Post.shift g5 q3⟩
      | brk ρ5 =>
        rw [ef] at q3
        exact fun σ5 h5 R5 g5 => q3 σ5 h5 R5 g5
      | ret r =>
        rw [ef] at q3
        exact q3
      | exc c p ρ5 =>
        rw [ef] at q3
        exact q3
      | bad =>
        rw [ef] at q3
        exact q3
end
end Sq

/-! Defs and their calls; own lists changed. -/
namespace Sq
open PySem PySem.Spec PyProof.Rows L2
inductive Fr where
  | ret (r : Rv)
  | exc (c : Str) (p : Option (Str × D))
  | bad
def fnR (f : SF) (n : Nat) (as : List Sl) : Fr := match f (as ++ List.replicate (n - as.length) .u) with
  | .ret r => .ret r
  | .next _ => .ret (.v .none)
  | .exc c p _ => .exc c p
  | _ => .bad
/-- classes by their names -/
def cmOf (mg : Str → Option Value) (c : Str) : Addr := match mg c with
  | some (.ref a) => a
  | _ => 0
theorem cmOf_eq {mg : Str → Option Value} {c : Str} {a : Addr} (h : mg c = some (.ref a)) : cmOf mg c = a := by
  unfold cmOf
  rw [h]
def WFx (K : PySem.W.Frag) (cm : Str → Addr) (Wx : WX) : WF := fun c p σ h => match p with
  | none => Wx (.ref (cm c)) none σ h.H
  | some (f, x) => ∀ d v, h.H d = some (.xd [(f, v)]) → Dp K h.G v x → Wx (.ref (cm c)) (some d) σ h.H
def ArgsOk (K : PySem.W.Frag) (G H : Hp) : List V → List Sl → Prop
  | [], [] => True
  | v :: vs, .v d :: as => Dp K G v d ∧ ArgsOk K G H vs as
  | v :: vs, .b d :: as => Dp K H v d ∧ ArgsOk K G H vs as
  | _, _ => False
def RtOk (K : PySem.W.Frag) (H G' H' : Hp) (v : V) : Rv → Prop
  | .v d => Dp K G' v d
  | .b d => Dp K H' v d
  | .o xs => ∃ l vs, v = .ref l ∧ H l = none ∧ H' l = some (.lst vs) ∧ G' l = none ∧ DpAll K G' vs xs
  | .ok kvs => ∃ l vs, v = .ref l ∧ H l = none ∧ H' l = some (.dK vs) ∧ G' l = none ∧ KvD K G' vs kvs
  | .p2 xs ys => ∃ t l m vs ws, v = .ref t ∧ H' t = some (.tup [.ref l, .ref m]) ∧ l ≠ m ∧ (H l = none ∧ H' l = some (.lst vs) ∧ G' l = none ∧ DpAll K G' vs xs) ∧ (H m = none ∧ H' m = some (.lst ws) ∧ G' m = none ∧ DpAll K G' ws ys)
  | _ => False
structure CG (G H G' H' : Hp) : Prop where
  g : Ex G G'
  h : Ex H H'
  c : Ex G' H'
  n : ∀ a o, G' a = some o → G a = none → H a = none
/-- a def's promise: what the pure function g says -/
def fsp (K : PySem.W.Frag) (cm : Str → Addr) (n : Nat) (g : List Sl → Fr) : Sp := fun vs H Q E => vs.length = n ∧ ∃ (G : Hp) (as : List Sl), Ex G H ∧ ArgsOk K G H vs as ∧ match g as with
  | .ret r => ∀ v G' H', CG G H G' H' → RtOk K H G' H' v r → Q v H'
  | .exc c none => ∀ G' H', CG G H G' H' → E (.ref (cm c)) none H'
  | .exc c (some (f, x)) => ∀ G' H' d v, CG G H G' H' → H' d = some (.xd [(f, v)]) → Dp K G' v x → E (.ref (cm c)) (some d) H'
  | .bad => False
section
variable {P : Program} {w : World} {K : PySem.W.Frag} {mg : Str → Option Value} {base : Heap}
theorem ArgsOk.len {G H : Hp} : ∀ {vs : List V} {as : List Sl}, ArgsOk K G H vs as → vs.length = as.length
  | [], [], _ => rfl
  | _ :: _, .v _ :: _, q => congrArg (· + 1) (ArgsOk.len q.2)
  | _ :: _, .b _ :: _, q => congrArg (· + 1) (ArgsOk.len q.2)
  | [], _ :: _, q => q.elim
  | _ :: _, [], q => q.elim
  | _ :: _, .u :: _, q => q.elim
  | _ :: _, .o _ :: _, q => q.elim
  | _ :: _, .k _ :: _, q => q.elim
  | _ :: _, .t _ :: _, q => q.elim
theorem ArgsOk.get {G H : Hp} : ∀ {vs : List V} {as : List Sl} {i : Nat} {s : Sl}, ArgsOk K G H vs as → as[i]? = some s → ∃ v, vs[i]? = some v ∧ ((∃ d, s = .v d ∧ Dp K G v d) ∨ ∃ d, s = .b d ∧ Dp K H v d)
  | v :: vs, .v d :: as, 0, s, q, e => by
    cases e
    exact ⟨v, rfl, .inl ⟨d, rfl, q.1⟩⟩
  | v :: vs, .b d :: as, 0, s, q, e => by
    cases e
    exact ⟨v, rfl, .inr ⟨d, rfl, q.1⟩⟩
  | _ :: _, .v _ :: as, i + 1, s, q, e => ArgsOk.get (i := i) q.2 (by simpa using e)
  | _ :: _, .b _ :: as, i + 1, s, q, e => ArgsOk.get (i := i) q.2 (by simpa using e)
  | [], [], _, _, _, e => by simp at e
  | [], _ :: _, _, _, q, _ => q.elim
  | _ :: _, [], _, _, q, _ => q.elim
  | _ :: _, .u :: _, _, _, q, _ => q.elim
  | _ :: _, .o _ :: _, _, _, q, _ => q.elim
  | _ :: _, .k _ :: _, _, _, q, _ => q.elim
  | _ :: _, .t _ :: _, _, _, q, _ => q.elim
theorem rel_start {N : List Str} {G H : Hp} {vs : List V} {as : List Sl} (c : Ex G H) (ok : ArgsOk K G H vs as) (hl : vs.length ≤ N.length) : Rel K ⟨G, H, H⟩ (as ++ List.replicate (N.length - as.length) .u) (L2.start N vs) := by
  have el := ok.len
  have cases_at : ∀ {i : Nat} {s : Sl}, (as ++ List.replicate (N.length - as.length) Sl.u)[i]? = some s → as[i]? = some s ∨ s = .u := fun {i s} e => by
    rw [List.getElem?_append] at e
    split at e
    · exact .inl e
    · rw [List.getElem?_replicate] at e
      split at e
      · cases e; exact .inr rfl
      · cases e
  refine ⟨⟨c, Ex.refl H⟩, ?_, fun i s x e1 e2 => ?_, fun i j s t l m hij e1 e2 o1 o2 _ _ => ?_⟩
  · unfold L2.start
    simp [el]
  · rcases cases_at e1 with e | e
    · obtain ⟨v, ev, q⟩ := ok.get e
      have ex : x = some v := by
        unfold L2.start at e2
        have hi : i < vs.length := (List.getElem?_eq_some_iff.mp ev).1
        rw [List.getElem?_append_left (by simpa using hi), List.getElem?_map, ev] at e2
        cases e2
        rfl
      rcases q with ⟨d, rfl, q⟩ | ⟨d, rfl, q⟩
      · exact ⟨v, ex, q⟩
      · exact ⟨v, ex, q⟩
    · subst e
      trivial
  · exfalso
    rcases cases_at e1 with e | e
    · obtain ⟨v, ev, q⟩ := ok.get e
      rcases q with ⟨d, rfl, q⟩ | ⟨d, rfl, q⟩ <;> cases o1
    · subst e
      cases o1
theorem cg_of {G H : Hp} {h' : Hs} (c : Ch h') (g : SG ⟨G, H, H⟩ h') : CG G H h'.G h'.H := ⟨g.g, g.f.trans c.fh, c.gh, g.gn⟩
abbrev bodyCx (P : Program) (w : World) (K : PySem.W.Frag) (mg : Str → Option Value) (base : Heap) (N : List Str) (qual : Str) (st : Stmt) (f : Addr) (cdv : Value) (A : Around) (outer : List PySem.Env) (s : Shared) (H : Hp) (E : XK) : Cx := cxOf (L2.CX P w) P w K mg base N qual (defScope st) f cdv A outer s H E
/-- THE RULE for a def -/
theorem fn_ok {cm : Str → Addr} {x qual : Str} {st : Stmt} {f : Addr} {fd : FuncData} {N ps : List Str} {k : Nat} {bf : SF} (F : Fun K x qual st f fd) (S : FnScope N ps (defScope st)) (hps : ps.length ≤ N.length)
    (body : ∀ (cdv : Value) (A : Around) (outer : List PySem.Env) (s : Shared) (H : Hp) (E : XK), Room k (A.deeper (envOfC qual (defScope st) s.heap.objs.size f cdv)) →
      PSs (bodyCx P w K mg base N qual st f cdv A outer s H E) (defBody st) (tS K (WFx K cm fun cls d _ H => E cls d H) bf)) :
    FnOk P w K mg base (L2.CX P w) (k + 1) f fd ps (fsp K cm ps.length (fnR bf N.length)) := by
  refine F.okX S (fun vs H Q E h => h.1) fun cdv A outer s H vs Q E hr h => ⟨_, body cdv A outer s H E hr, ?_⟩
  obtain ⟨hl, G, as, c, ok, q⟩ := h
  have R := rel_start (N := N) c ok (by omega)
  refine ⟨⟨G, H, H⟩, _, rfl, R, ?_⟩
  unfold fnR at q
  cases e : bf (as ++ List.replicate (N.length - as.length) .u) with
  | bad => rw [e] at q; exact q.elim
  | brk _ => rw [e] at q; exact q.elim
  | cont _ => rw [e] at q; exact q.elim
  | next ρ' =>
    rw [e] at q
    exact fun σ' h' R' g' => q .non h'.G h'.H (cg_of R'.ch g') .non
  | ret r =>
    rw [e] at q
    intro v h' c' g' ok'
    refine q v h'.G h'.H (cg_of c' g') ?_
    cases r with
    | v d => exact ok'
    | b d => exact ex_dp c'.fh ok'
    | o xs =>
      obtain ⟨l, vs, ev, a, b, d⟩ := ok'
      exact ⟨l, vs, ev, g'.f.back b, a, c'.gf.back b, d⟩
    | ok xs =>
      obtain ⟨l, vs, ev, a, b, d⟩ := ok'
      exact ⟨l, vs, ev, g'.f.back b, a, c'.gf.back b, d⟩
    | p2 xs ys =>
      obtain ⟨t, l, m, vs, ws, ev, ht, ne, ⟨a, b, d⟩, ⟨a2, b2, d2⟩⟩ := ok'
      exact ⟨t, l, m, vs, ws, ev, ht, ne, ⟨g'.f.back b, a, c'.gf.back b, d⟩, ⟨g'.f.back b2, a2, c'.gf.back b2, d2⟩⟩
    | _ => exact ok'.elim
  | exc cc p ρ' =>
    rw [e] at q
    intro σ' h' R' g'
    cases p with
    | none => exact q h'.G h'.H (cg_of R'.ch g')
    | some p =>
      obtain ⟨ff, xx⟩ := p
      exact fun d v hd hv => q h'.G h'.H d v (cg_of R'.ch g') hd hv
end

/-! ### calls -/
section
variable {X : Cx} {W : WF} {cm : Str → Addr}
/-- what is let out is taken -/
def Tk (X : Cx) (cm : Str → Addr) (W : WF) : Prop := ∃ Wx : WX, Takes X Wx ∧ ∀ c p σ h, W c p σ h → WFx X.K cm Wx c p σ h
theorem tkN : Tk X cm WN := ⟨fun _ _ _ _ => False, takes0, fun _ _ _ _ z => z.elim⟩
theorem tkOf {Wx : WX} (t : Takes X Wx) : Tk X cm (WFx X.K cm Wx) := ⟨Wx, t, fun _ _ _ _ z => z⟩
def Rv.sl : Rv → Sl
  | .v d => .v d
  | .b d => .b d
  | .r d => .b d
  | _ => .u
def Fr.rv : Fr → Er Rv
  | .ret (.v d) => .ok (.v d)
  | .ret (.b d) => .ok (.r d)
  | .ret (.o xs) => .ok (.o xs)
  | .ret (.ok xs) => .ok (.ok xs)
  | .ret (.p2 xs ys) => .ok (.p2 xs ys)
  | .ret _ => .bad
  | .exc c p => .exc c p
  | .bad => .bad
def callF (g : List Sl → Fr) (r : AF) : EF := fun ρ => (r ρ).bind fun rs => (g (rs.map Rv.sl)).rv
theorem args_of {K : PySem.W.Frag} {h : Hs} (c : Ch h) : ∀ {vs : List V} {rs : List Rv}, RvsOk K h vs rs → ArgsOk K h.G h.H vs (rs.map Rv.sl)
  | [], [], _ => trivial
  | _ :: _, .v _ :: _, q => ⟨q.1, args_of c q.2⟩
  | _ :: _, .b _ :: _, q => ⟨ex_dp c.fh q.1, args_of c q.2⟩
  | _ :: _, .r _ :: _, q => ⟨q.1, args_of c q.2⟩
  | [], _ :: _, q => q.elim
  | _ :: _, [], q => q.elim
  | _ :: _, .w _ :: _, q => q.1.elim
  | _ :: _, .o _ :: _, q => q.1.elim
  | _ :: _, .wk _ :: _, q => q.1.elim
  | _ :: _, .ok _ :: _, q => q.1.elim
  | _ :: _, .wt _ :: _, q => q.1.elim
  | _ :: _, .ot _ :: _, q => q.1.elim
  | _ :: _, .p2 _ _ :: _, q => q.1.elim
/-- behind a call: the caller's heaps -/
def Hs.call (h : Hs) (G' H' : Hp) : Hs := ⟨G', fun a => match h.F a with | some o => some o | none => G' a, H'⟩
theorem call_gr {h : Hs} (c : Ch h) {G' H' : Hp} (g : CG h.G h.H G' H') : Gr h (h.call G' H') ∧ Ch (h.call G' H') := by
  have gf : Ex G' (h.call G' H').F := fun a o e => by
    show (match h.F a with | some o => some o | none => G' a) = some o
    cases q : h.F a with
    | none => exact e
    | some u =>
      cases z : h.G a with
      | none =>
        have := g.n a o e z
        rw [c.fh a u q] at this
        cases this
      | some t =>
        have e1 := g.g a t z
        rw [e] at e1
        cases e1
        have e2 := c.gf a _ z
        rw [q] at e2
        exact e2
  have ff : Ex h.F (h.call G' H').F := fun a o e => by
    show (match h.F a with | some o => some o | none => G' a) = some o
    rw [e]
  refine ⟨⟨g.g, ff, g.h, fun a o e z => ?_, fun a o e z => ?_⟩, ⟨gf, fun a o e => ?_⟩⟩
  · exact c.fh.back (g.n a o e z)
  · have e' : (match h.F a with | some o => some o | none => G' a) = some o := e
    rw [z] at e'
    exact g.n a o e' (c.gf.back z)
  · have e' : (match h.F a with | some o => some o | none => G' a) = some o := e
    cases q : h.F a with
    | none =>
      rw [q] at e'
      exact g.c a o e'
    | some u =>
      rw [q] at e'
      cases e'
      exact g.h a _ (c.fh a _ q)
theorem xcall {k : Nat} {f : Addr} {fd : FuncData} {ps : List Str} {g : List Sl → Fr} {x : Str} {p pos : Pos} {e : Expr} {es : List Expr} {r : AF} (tk : Tk X cm W) (F : FnOk X.prog X.w X.K X.mg X.base (L2.CX X.prog X.w) k f fd ps (fsp X.K cm ps.length g)) (hr : Room k X.A) (hg : Gl X x) (hm : X.mg x = some (.ref f)) (hk : PySem.W.keepIn X.K (.ref f) = true) (hb : Binds X.K fd ps [])
    (hlen : ps.length = (e :: es).length) (ha : PA X (e :: es) (tXa X.K W r)) (hrl : ∀ ρ rs, r ρ = .ok rs → rs.length = (e :: es).length) (hdb : (x == ("__debug__" : Str)) = false := by decide) (he : starEach (e :: es) X.env = (false, eval e X.env) :: starEach es X.env := by rfl) (hpl : (backTo pos (starEach es X.env)).any (·.1) = false := by rfl) :
    PE X (.Call (.Name x p) (e :: es) [] pos) (tX X.K W (callF g r)) := by
  obtain ⟨Wx, tk, hW⟩ := tk
  refine peTo (pe_callS F hr hg hm hk hb (E := WE Wx) (fun σ => passAt tk σ) ha hdb he hpl) fun σ H Q q => ?_
  obtain ⟨h, ρ, rfl, R, q⟩ := tX_iff.mp q
  refine ⟨h, ρ, rfl, R, PE1.bindA q fun rs vs h1 er R1 g1 ok1 q1 => ?_⟩
  refine ⟨by rw [ok1.len, hrl ρ rs er, hlen], h1.G, rs.map Rv.sl, R1.ch.gh, args_of R1.ch ok1, ?_⟩
  cases eg : g (rs.map Rv.sl) with
  | bad => rw [eg] at q1; exact q1.elim
  | exc c p =>
    rw [eg] at q1
    cases p with
    | none =>
      intro G' H' cg
      obtain ⟨gr, ch⟩ := call_gr R1.ch cg
      exact hW _ _ _ _ (q1 (h1.call G' H') (R1.grow gr ch) gr)
    | some p =>
      obtain ⟨ff, xx⟩ := p
      intro G' H' d v cg hd hv
      obtain ⟨gr, ch⟩ := call_gr R1.ch cg
      exact hW _ _ _ _ (q1 (h1.call G' H') (R1.grow gr ch) gr) d v hd hv
  | ret res =>
    rw [eg] at q1
    intro v G' H' cg ok'
    obtain ⟨gr, ch⟩ := call_gr R1.ch cg
    have R2 := R1.grow gr ch
    cases res with
    | v d => exact q1 v (h1.call G' H') R2 gr ok'
    | b d => exact q1 v (h1.call G' H') R2 gr ok'
    | o xs =>
      obtain ⟨l, ws, ev, n, a, b, d⟩ := ok'
      refine q1 v (h1.call G' H') R2 gr ⟨l, ws, ev, n, a, ?_, d⟩
      show (match h1.F l with | some o => some o | none => G' l) = none
      rw [R1.ch.fh.back n]
      exact b
    | ok xs =>
      obtain ⟨l, ws, ev, n, a, b, d⟩ := ok'
      refine q1 v (h1.call G' H') R2 gr ⟨l, ws, ev, n, a, ?_, d⟩
      show (match h1.F l with | some o => some o | none => G' l) = none
      rw [R1.ch.fh.back n]
      exact b
    | p2 xs ys =>
      obtain ⟨t, l, m, vs', ws, ev, ht, ne, ⟨n, a, b, d⟩, ⟨n2, a2, b2, d2⟩⟩ := ok'
      refine q1 v (h1.call G' H') R2 gr ⟨t, l, m, vs', ws, ev, ht, ne, ⟨n, a, ?_, d⟩, ⟨n2, a2, ?_, d2⟩⟩
      · show (match h1.F l with | some o => some o | none => G' l) = none
        rw [R1.ch.fh.back n]
        exact b
      · show (match h1.F m with | some o => some o | none => G' m) = none
        rw [R1.ch.fh.back n2]
        exact b2
    | _ => exact q1.elim
/-! ### raise -/
def excS (c : Str) : SF := fun ρ => .exc c none ρ
theorem xraise {c m : Str} {j : Nat} {p p2 pos pos2 : Pos} {bmB : List Value} {B newId initId : String} (tk : Tk X cm W) (hc : X.calm = true) (F : ExcBaseFacts B newId initId bmB) (q : PySem.W.excIn X.K (cm c) bmB newId = true) (gC : X.mg c = some (.ref (cm c))) (kC : PySem.W.keepIn X.K (.ref (cm c)) = true) (r : Raises X (.ref (cm c))) (hg : Gl X c)
    (hdb : (c == ("__debug__" : Str)) = false := by decide) : PS X (.Raise (some (.Call (.Name c p) [.Constant (.str m) j p2] [] pos)) none pos2) (tS X.K W (excS c)) := by
  obtain ⟨Wx, tk, hW⟩ := tk
  refine psTo (ps_raise hc tk (pmk_own F q gC kC r hg hdb)) fun D σ H ⟨h, ρ, e, R, q⟩ => ?_
  subst e
  exact hW _ _ _ _ (q σ h R (SG.refl h))

/-! ### own lists changed -/
/-- the own object of a slot is another one -/
theorem Rel.mut {K : PySem.W.Frag} {h : Hs} {ρ : Env} {σ : L2.St} (R : Rel K h ρ σ) {i : Nat} {s s' : Sl} {l : Addr} {o : HO} (e : ρ[i]? = some s) (os : s.own = true) (os' : s'.own = true) (el : σ[i]? = some (some (.ref l))) (ok : SlOk K ⟨h.G, h.F, upd h.H l o⟩ (some (.ref l)) s') :
    Rel K ⟨h.G, h.F, upd h.H l o⟩ (ρ.set i s') σ ∧ SG h ⟨h.G, h.F, upd h.H l o⟩ := by
  obtain ⟨_, fl⟩ := R.ownH e os el
  have hi : i < ρ.length := (List.getElem?_eq_some_iff.mp e).1
  refine ⟨⟨⟨R.ch.gf, Ex.mut R.ch.fh fl⟩, by simp [R.len], fun j t x e1 e2 => ?_, fun j k t u m n hjk e1 e2 o1 o2 e3 e4 => ?_⟩, ⟨Ex.refl _, Ex.refl _, fun a u e1 e2 => no_sm (show h.G a = some u from e1) e2⟩⟩
  · by_cases hj : i = j
    · subst hj
      rw [List.getElem?_set] at e1
      simp only [if_true, hi] at e1
      cases e1
      rw [el] at e2
      cases e2
      exact ok
    · rw [List.getElem?_set_ne hj] at e1
      have q := R.at_ j t x e1 e2
      have hm : ∀ m, t.own = true → x = some (.ref m) → m ≠ l := fun m ot z => by
        subst z
        exact Ne.symm (R.dis i j s t l m hj e e1 os ot el e2)
      cases t with
      | u => trivial
      | x a => exact q
      | v d => exact q
      | b d => exact q
      | o ys =>
        obtain ⟨m, ws, z, a, b, d⟩ := q
        exact ⟨m, ws, z, (upd_ne (hm m rfl z)).trans a, b, d⟩
      | k ys =>
        obtain ⟨m, ws, z, a, b, d⟩ := q
        exact ⟨m, ws, z, (upd_ne (hm m rfl z)).trans a, b, d⟩
      | t ys =>
        obtain ⟨m, ws, z, a, b, d⟩ := q
        exact ⟨m, ws, z, (upd_ne (hm m rfl z)).trans a, b, d⟩
  · have fix : ∀ {j : Nat} {t : Sl} {m : Addr}, (ρ.set i s')[j]? = some t → t.own = true → σ[j]? = some (some (.ref m)) → ∃ t', ρ[j]? = some t' ∧ t'.own = true := fun {j t m} e1 o1 e3 => by
      by_cases hj : i = j
      · subst hj
        exact ⟨s, e, os⟩
      · rw [List.getElem?_set_ne hj] at e1
        exact ⟨t, e1, o1⟩
    obtain ⟨t', a1, a2⟩ := fix e1 o1 e3
    obtain ⟨u', b1, b2⟩ := fix e2 o2 e4
    exact R.dis j k t' u' m n hjk a1 b1 a2 b2 e3 e4
/-- l.append(e), l a local -/
def appS (i : Nat) (f : EF) : SF := fun ρ => match slot ρ i with
  | .o xs => thenS ρ (f ρ) fun r => match r.keep with
    | .ok d => if xs.length < 100000 then .next (ρ.set i (.o (xs ++ [d]))) else .bad
    | _ => .bad
  | _ => .bad
theorem mut_now {K : PySem.W.Frag} {h : Hs} {ρ : Env} {σ : L2.St} (R : Rel K h ρ σ) {i : Nat} {xs : List D} (es : slot ρ i = .o xs) : ∃ l vs, σ[i]? = some (some (.ref l)) ∧ h.H l = some (.lst vs) ∧ DpAll K h.G vs xs ∧ vs.length = xs.length ∧
    ∀ (ws : List V) (ys : List D), DpAll K h.G ws ys → Rel K ⟨h.G, h.F, upd h.H l (.lst ws)⟩ (ρ.set i (.o ys)) σ ∧ SG h ⟨h.G, h.F, upd h.H l (.lst ws)⟩ := by
  have ei := slot_some es (by intro z; cases z)
  obtain ⟨x, ex, l, vs, rfl, hl, fl, hd⟩ := R.get ei
  exact ⟨l, vs, ex, hl, hd, hd.len, fun ws ys d => R.mut ei rfl rfl ex ⟨l, ws, rfl, upd_same, fl, d⟩⟩
theorem keep_okS {K : PySem.W.Frag} {h0 h : Hs} {ρ : Env} {σ : L2.St} (R0 : Rel K h0 ρ σ) (R : Rel K h ρ σ) (g : Gr h0 h) {v : V} {a : Rv} {d : D} (e : a.keep = .ok d) (ok : RvOk K h0.H h v a) : ∃ h', h'.H = h.H ∧ Rel K h' ρ σ ∧ Gr h0 h' ∧ Dp K h'.G v d := keep_ok R0 R g e ok
theorem xapp (i : Nat) {e o : Expr} {f : EF} {pos apos spos : Pos} (he : PE X (.Call (.Attribute o "append" apos) [e] [] pos) (tBM X.K "list" rAppend (tVar i) (tCons (tX X.K W f) tNil))) (hs : swapsWith (.Call (.Attribute o "append" apos) [e] [] pos) none spos.line X.env = pure false := by rfl) :
    PS X (.Expr (.Call (.Attribute o "append" apos) [e] [] pos) spos) (tS X.K W (appS i f)) := by
  refine psTo (ps_expr he hs) fun D σ H ⟨h, ρ, eh, R, q⟩ => ?_
  subst eh
  unfold appS at q
  split at q
  · rename_i xs es
    obtain ⟨l, vs, ex, hl, hd, hlen, _⟩ := mut_now R es
    refine ⟨.ref l, ex, .inl ⟨rfl, vs, .of hl⟩, ?_⟩
    refine (tX_mk (f := f) R (q.then fun r v h' _ R' g' ok q' => ?_) : tX X.K W f σ h.H _)
    cases ek : r.keep with
    | bad => rw [ek] at q'; exact q'.elim
    | exc c p => exact absurd ek keep_ne
    | ok d =>
      rw [ek] at q'
      dsimp only at q'
      split at q'
      · obtain ⟨h2, eh2, R2, g2, dv⟩ := keep_ok R R' g' ek ok
        obtain ⟨l2, vs2, ex2, hl2, hd2, hlen2, mt⟩ := mut_now R2 es
        rw [ex] at ex2
        cases ex2
        obtain ⟨R3, g3⟩ := mt (vs2 ++ [v]) (xs ++ [d]) (hd2.snoc dv)
        rw [← eh2]
        exact ⟨l, vs2, v, rfl, rfl, hl2, by rw [hlen2]; exact Nat.lt_of_lt_of_le (by assumption) (by decide), q' σ _ R3 (g2.sg.trans g3)⟩
      · exact q'.elim
  · exact q.elim
/-! an expression that changes an own list: its value, the environment behind it -/
abbrev MF := Env → Er (Rv × Env)
def PM1 (K : PySem.W.Frag) (W : WF) (h : Hs) (ρ : Env) (σ : L2.St) (Q : VK) : Er (Rv × Env) → Prop
  | .ok (r, ρ') => ∀ v h', Rel K h' ρ' σ → SG h h' → RvF K h' v r → Q v h'.H
  | .exc c p => ∀ h', Rel K h' ρ σ → SG h h' → W c p σ h'
  | .bad => False
def tM (K : PySem.W.Frag) (W : WF) (f : MF) : TE := fun σ H Q => ∃ h ρ, h.H = H ∧ Rel K h ρ σ ∧ PM1 K W h ρ σ Q (f ρ)
/-- l.pop(e), 0 ≤ e -/
def popAtM (j : Nat) (f : EF) : MF := fun ρ => match slot ρ j with
  | .o xs => (f ρ).bind fun r => match r.dat with
    | some (.int i) => if 0 ≤ i ∧ i < 1000000 then (match xs[i.toNat]? with
      | some d => .ok (.v d, ρ.set j (.o (xs.eraseIdx i.toNat)))
      | none => .bad) else .bad
    | _ => .bad
  | _ => .bad
theorem seqIx_nat {i : Int} {n : Nat} (h0 : 0 ≤ i) (h : i.toNat < n) : seqIndex? i n = some i.toNat := by
  have e : ixN n i = some i.toNat := by
    unfold ixN
    rw [if_pos h0, if_pos (by omega)]
  exact (ixN_seq e).1
theorem xpopAt (j : Nat) {e : Expr} {f : EF} (he : PE X e (tBM X.K "list" rPopAt (tVar j) (tCons (tX X.K W f) tNil))) : PE X e (tM X.K W (popAtM j f)) := by
  refine peTo he fun σ H Q ⟨h, ρ, eh, R, q⟩ => ?_
  subst eh
  unfold popAtM at q
  split at q
  · rename_i xs es
    obtain ⟨l, vs, ex, hl, hd, hlen, _⟩ := mut_now R es
    refine ⟨.ref l, ex, .inl ⟨rfl, vs, .of hl⟩, ?_⟩
    refine (tX_mk (f := f) R ?_ : tX X.K W f σ h.H _)
    cases ef : f ρ with
    | bad => rw [ef] at q; exact q
    | exc c p =>
      rw [ef] at q
      exact fun h' R' g' => q h' R' g'.sg
    | ok r =>
      rw [ef] at q
      have q : PM1 X.K W h ρ σ Q (match r.dat with
        | some (.int i) => if 0 ≤ i ∧ i < 1000000 then (match xs[i.toNat]? with
          | some d => .ok (.v d, ρ.set j (.o (xs.eraseIdx i.toNat)))
          | none => .bad) else .bad
        | _ => .bad) := q
      intro v h' R' g' ok
      split at q
      · rename_i i ei
        split at q
        · rename_i hi
          split at q
          · rename_i d hd1
            have ev := dp_int (ok.dp R'.ch ei)
            subst ev
            obtain ⟨l2, vs2, ex2, hl2, hd2, hlen2, mt⟩ := mut_now R' es
            rw [ex] at ex2
            cases ex2
            obtain ⟨y, ey, dy⟩ := hd2.get hd1
            have hlt : i.toNat < xs.length := (List.getElem?_eq_some_iff.mp hd1).1
            obtain ⟨R3, g3⟩ := mt (vs2.eraseIdx i.toNat) (xs.eraseIdx i.toNat) (hd2.eraseIdx _)
            exact ⟨l, vs2, i, i.toNat, y, rfl, rfl, hl2, by omega, by omega, seqIx_nat hi.1 (by rw [hlen2]; exact hlt), ey, q y _ R3 (g'.sg.trans g3) dy⟩
          · exact q.elim
        · exact q.elim
      · exact q.elim
  · exact q.elim
/-- l.pop() -/
def popM (j : Nat) : MF := fun ρ => match slot ρ j with
  | .o xs => match xs[xs.length - 1]? with
    | some d => .ok (.v d, ρ.set j (.o xs.dropLast))
    | none => .bad
  | _ => .bad
theorem _root_.L2.DpAll.dropLast {K : PySem.W.Frag} {H : Hp} {vs : List V} {ds : List D} (h : DpAll K H vs ds) : DpAll K H vs.dropLast ds.dropLast := by
  rw [List.dropLast_eq_take, List.dropLast_eq_take, h.len]
  exact h.take _
theorem xpop (j : Nat) {e : Expr} (he : PE X e (tBM0 X.K "list" rPop (tVar j))) : PE X e (tM X.K W (popM j)) := by
  refine peTo he fun σ H Q ⟨h, ρ, eh, R, q⟩ => ?_
  subst eh
  unfold popM at q
  split at q
  · rename_i xs es
    obtain ⟨l, vs, ex, hl, hd, hlen, mt⟩ := mut_now R es
    split at q
    · rename_i d hd1
      obtain ⟨y, ey, dy⟩ := hd.get hd1
      obtain ⟨R3, g3⟩ := mt vs.dropLast xs.dropLast hd.dropLast
      exact ⟨.ref l, ex, .inl ⟨rfl, vs, .of hl⟩, l, vs, y, rfl, rfl, hl, by rw [hlen]; exact ey, q y _ R3 g3 dy⟩
    · exact q.elim
  · exact q.elim
def thenM (ρ : Env) (e : Er (Rv × Env)) (k : Rv → Env → Res) : Res := match e with
  | .ok (r, ρ') => k r ρ'
  | .exc c p => .exc c p ρ
  | .bad => .bad
theorem Post.thenM {D : Ends} {h : Hs} {ρ : Env} {σ : L2.St} {e : Er (Rv × Env)} {k : Rv → Env → Res} (q : Post X.K W D h (thenM ρ e k)) {Q : VK} (hk : ∀ r ρ' v h', e = .ok (r, ρ') → Rel X.K h' ρ' σ → SG h h' → RvF X.K h' v r → Post X.K W D h' (k r ρ') → Q v h'.H) : PM1 X.K W h ρ σ Q e := by
  cases e with
  | ok r => exact fun v h' R g ok => hk r.1 r.2 v h' rfl R g ok (Post.shift g q)
  | exc c p => exact fun h' R g => q σ h' R g
  | bad => exact q
/-- x = l.pop(..) -/
def asgM (f : MF) (φ : TF) : SF := fun ρ => thenM ρ (f ρ) fun r ρ' => liftE ρ' (φ r ρ')
theorem xasgM {tg e : Expr} {f : MF} {φ : TF} {fp : List Nat} {pos : Pos} (hφ : ∀ r ρ c p, φ r ρ ≠ .exc c p) (he : PE X e (tM X.K W f)) (hg : PG X tg (tG X.K fp φ)) (hs : swapsWithSole [tg] e pos.line X.env = pure false := by rfl) (hw : swappedStores [tg] e X.env = pure none := by rfl)
    (h1 : (assignEach [tg] X.env).map (·.2) = [assign tg X.env] := by rfl) : PS X (.Assign [tg] e pos) (tS X.K W (asgM f φ)) := psTo (ps_asg he hg hs hw h1) fun D σ H ⟨h, ρ, e, R, q⟩ => by
  subst e
  refine ⟨h, ρ, rfl, R, q.thenM fun r ρ' v h' _ R' g' ok q' => ?_⟩
  cases e1 : φ r ρ' with
  | bad => rw [e1] at q'; exact q'.elim
  | exc c p => exact absurd e1 (hφ _ _ _ _)
  | ok ρ2 =>
    rw [e1] at q'
    exact ⟨h', h', ρ', r, ρ2, rfl, R', R', ok.rv, e1, fun σ' R2 _ => q' σ' h' R2 (SG.refl _)⟩
/-- l.append(m.pop(..)) -/
def appM (i : Nat) (f : MF) : SF := fun ρ => match slot ρ i with
  | .o _ => thenM ρ (f ρ) fun r ρ' => match slot ρ' i, r with
    | .o xs, .v d => if xs.length < 100000 then .next (ρ'.set i (.o (xs ++ [d]))) else .bad
    | _, _ => .bad
  | _ => .bad
theorem xappM (i : Nat) {e o : Expr} {f : MF} {pos apos spos : Pos} (he : PE X (.Call (.Attribute o "append" apos) [e] [] pos) (tBM X.K "list" rAppend (tVar i) (tCons (tM X.K W f) tNil))) (hs : swapsWith (.Call (.Attribute o "append" apos) [e] [] pos) none spos.line X.env = pure false := by rfl) :
    PS X (.Expr (.Call (.Attribute o "append" apos) [e] [] pos) spos) (tS X.K W (appM i f)) := by
  refine psTo (ps_expr he hs) fun D σ H ⟨h, ρ, eh, R, q⟩ => ?_
  subst eh
  unfold appM at q
  split at q
  · rename_i xs0 es
    obtain ⟨l, vs, ex, hl, hd, hlen, _⟩ := mut_now R es
    refine ⟨.ref l, ex, .inl ⟨rfl, vs, .of hl⟩, ?_⟩
    refine ⟨h, ρ, rfl, R, q.thenM fun r ρ' v h' _ R' g' ok q' => ?_⟩
    cases es' : slot ρ' i with
    | o xs =>
      rw [es'] at q'
      cases r with
      | v d =>
        dsimp only at q'
        split at q'
        · obtain ⟨l2, vs2, ex2, hl2, hd2, hlen2, mt⟩ := mut_now R' es'
          rw [ex] at ex2
          cases ex2
          obtain ⟨R3, g3⟩ := mt (vs2 ++ [v]) (xs ++ [d]) (hd2.snoc ok)
          exact ⟨l, vs2, v, rfl, rfl, hl2, by rw [hlen2]; exact Nat.lt_of_lt_of_le (by assumption) (by decide), q' σ _ R3 g3⟩
        · exact q'.elim
      | _ => exact q'.elim
    | _ =>
      rw [es'] at q'
      exact q'.elim
  · exact q.elim
/-- l.reverse(), l.clear() -/
def mutS (i : Nat) (φ : List D → List D) : SF := fun ρ => match slot ρ i with
  | .o xs => .next (ρ.set i (.o (φ xs)))
  | _ => .bad
theorem xreverse (i : Nat) {e : Expr} {spos : Pos} (he : PE X e (tBM0 X.K "list" rReverse (tVar i))) (hs : swapsWith e none spos.line X.env = pure false := by rfl) : PS X (.Expr e spos) (tS X.K W (mutS i List.reverse)) := by
  refine psTo (ps_expr he hs) fun D σ H ⟨h, ρ, eh, R, q⟩ => ?_
  subst eh
  unfold mutS at q
  split at q
  · rename_i xs es
    obtain ⟨l, vs, ex, hl, hd, hlen, mt⟩ := mut_now R es
    obtain ⟨R3, g3⟩ := mt vs.reverse xs.reverse hd.reverse
    exact ⟨.ref l, ex, .inl ⟨rfl, vs, .of hl⟩, l, vs, rfl, rfl, hl, q σ _ R3 g3⟩
  · exact q.elim
theorem xclear (i : Nat) {e : Expr} {spos : Pos} (he : PE X e (tBM0 X.K "list" rClear (tVar i))) (hs : swapsWith e none spos.line X.env = pure false := by rfl) : PS X (.Expr e spos) (tS X.K W (mutS i fun _ => [])) := by
  refine psTo (ps_expr he hs) fun D σ H ⟨h, ρ, eh, R, q⟩ => ?_
  subst eh
  unfold mutS at q
  split at q
  · rename_i xs es
    obtain ⟨l, vs, ex, hl, hd, hlen, mt⟩ := mut_now R es
    obtain ⟨R3, g3⟩ := mt [] [] .nil
    exact ⟨.ref l, ex, .inl ⟨rfl, vs, .of hl⟩, l, vs, rfl, rfl, hl, q σ _ R3 g3⟩
  · exact q.elim
/-- l[i] = e, d[k] = e: l, d locals -/
def setIt (j : Nat) (g : EF) (f : EF) : SF := fun ρ => thenS ρ (f ρ) fun r => match r.keep with
  | .ok d => match slot ρ j with
    | .o xs => thenS ρ (g ρ) fun i => match i.dat with
      | some (.int z) => match ixN xs.length z with
        | some n => .next (ρ.set j (.o (xs.set n d)))
        | none => .bad
      | _ => .bad
    | .k kvs => thenS ρ (g ρ) fun i => match i.dat.bind keyD with
      | some k => if kvs.length < 100000 then .next (ρ.set j (.k (setK kvs k d))) else .bad
      | none => .bad
    | _ => .bad
  | _ => .bad
theorem xsetIt (j : Nat) {x : Str} {i e : Expr} {f g : EF} {p p2 pos : Pos} (hu : X.A.units + 1 < cLine) (he : PE X e (tX X.K W f)) (hi : PE X i (tX X.K W g)) (ho : PE X (.Name x p) (tVar j))
    (hs : swapsWith e (some (.Subscript (.Name x p) i p2)) pos.line X.env = pure false := by rfl) (hs1 : swapsWithSole [.Subscript (.Name x p) i p2] e pos.line X.env = pure false := by rfl) (hw : swappedStores [.Subscript (.Name x p) i p2] e X.env = pure none := by rfl)
    (h1 : (assignEach [.Subscript (.Name x p) i p2] X.env).map (·.2) = [assign (.Subscript (.Name x p) i p2) X.env] := by rfl)
    (ha : ∀ v, assign (.Subscript (.Name x p) i p2) X.env v = (do
      let ov ← holding [v] (eval (.Name x p) X.env)
      let iv ← holding [v, ov] (eval i X.env)
      standAt p2
      holding [v, ov, iv] (setItem ov iv v)
      release [v, ov, iv] []) := by intro _; rfl) : PS X (.Assign [.Subscript (.Name x p) i p2] e pos) (tS X.K W (setIt j g f)) := by
  have A := ps_asg (pos := pos) he (pg_sub ho hi set_list ha) hs1 hw h1
  have B := ps_dput (pos := pos) (pos' := p2) hu ho hi he hs
  refine psTo (t := fun D σ H => tAsg (tX X.K W f) (gSub (tVar j) (tX X.K W g) rSetL) D σ H ∨ sDPut (tVar j) (tX X.K W g) (tX X.K W f) D σ H) ⟨fun pins s σ H D I hw => hw.elim (A.run pins s σ H D I) (B.run pins s σ H D I)⟩ fun D σ H ⟨h, ρ, eh, R, q⟩ => ?_
  subst eh
  unfold setIt at q
  cases es : slot ρ j with
  | o xs =>
    refine .inl (tX_mk R (q.then fun r v h1 _ R1 g1 ok1 q1 => ?_))
    cases ek : r.keep with
    | bad => rw [ek] at q1; exact q1.elim
    | exc c p => exact absurd ek keep_ne
    | ok d =>
      rw [ek, es] at q1
      obtain ⟨h2, eh2, R2, g2, dv⟩ := keep_ok R R1 g1 ek ok1
      rw [← eh2]
      obtain ⟨l, vs, ex, hl, hd, hlen, _⟩ := mut_now R2 es
      refine ⟨.ref l, ex, ?_⟩
      refine (tX_mk (f := g) R2 ((Post.shift g2.sg q1).then fun iz v3 h3 _ R3 g3 ok3 q3 => ?_) : tX X.K W g σ h2.H _)
      split at q3
      · rename_i z ez
        split at q3
        · rename_i n en
          have ev := dp_int (ok3.dp R3.ch ez)
          subst ev
          obtain ⟨l2, vs2, ex2, hl2, hd2, hlen2, mt⟩ := mut_now R3 es
          rw [ex] at ex2
          cases ex2
          obtain ⟨R4, g4⟩ := mt (vs2.set n v) (xs.set n d) (hd2.set (ex_dp g3.g dv) n)
          exact ⟨l, vs2, z, n, rfl, rfl, hl2, by rw [hlen2]; exact en, q3 σ _ R4 (g3.sg.trans g4)⟩
        · exact q3.elim
      · exact q3.elim
  | k kvs =>
    refine .inr (tX_mk R (q.then fun r v h1 _ R1 g1 ok1 q1 => ?_))
    cases ek : r.keep with
    | bad => rw [ek] at q1; exact q1.elim
    | exc c p => exact absurd ek keep_ne
    | ok d =>
      rw [ek, es] at q1
      obtain ⟨h2, eh2, R2, g2, dv⟩ := keep_ok R R1 g1 ek ok1
      rw [← eh2]
      have ei := slot_some es (by intro z; cases z)
      obtain ⟨x', ex, l, vs, rfl, hl, fl, hd⟩ := R2.get ei
      refine ⟨.ref l, ex, ?_⟩
      refine (tX_mk (f := g) R2 ((Post.shift g2.sg q1).then fun iz v3 h3 _ R3 g3 ok3 q3 => ?_) : tX X.K W g σ h2.H _)
      split at q3
      · rename_i k ez
        split at q3
        · rename_i hlt
          obtain ⟨x2, ex2, l2, vs2, rfl, hl2, fl2, hd2⟩ := R3.get ei
          rw [ex] at ex2
          cases ex2
          obtain ⟨dk, e1, e2⟩ := Option.bind_eq_some_iff.mp ez
          have ev := keyD_v e2 (ok3.dp R3.ch e1)
          subst ev
          obtain ⟨R4, g4⟩ := R3.mut (s' := .k (setK kvs k d)) (o := .dK (putK vs2 k v)) ei rfl rfl ex ⟨l, _, rfl, upd_same, fl2, hd2.set k (ex_dp g3.g dv)⟩
          exact ⟨l, _, rfl, DPut.k hl2 (by rw [hd2.len]; exact Nat.lt_of_lt_of_le hlt (by decide)), q3 σ _ R4 (g3.sg.trans g4)⟩
        · exact q3.elim
      · exact q3.elim
  | _ =>
    refine .inl (tX_mk R (q.then fun r v h1 _ R1 g1 ok1 q1 => ?_))
    exfalso
    rw [es] at q1
    split at q1
    · exact q1
    · exact q1
end
end Sq

/-! list.index, chains of comparisons. -/
namespace Sq
open PySem PySem.Spec PyProof.Rows L2
section
variable {K : PySem.W.Frag} {W : WF} {X : Cx} {a b c e : Expr} {f g k : EF} {p pos : Pos}
/-- the first place of an equal item -/
def firstAt (y : D) : List D → Nat → Option Nat
  | [], _ => none
  | z :: zs, n => if PyData.eqv z y = true then some n else firstAt y zs (n + 1)
def indexR (ys : List D) (b : Rv) : Er Rv := match b.dat with
  | some y => if ys.all flatD = true ∧ flatD y = true then (match firstAt y ys 0 with
    | some j => .ok (.v (.int (j : Nat)))
    | none => .bad) else .bad
  | none => .bad
def indexF (f g : EF) : EF := fun ρ => (f ρ).bind fun a => match a.dat with
  | some (.list ys) => (g ρ).bind fun b => indexR ys b
  | _ => .bad
theorem firstAt_some {y : D} : ∀ {zs : List D} {n j : Nat}, firstAt y zs n = some j → n ≤ j ∧ ∃ z, zs[j - n]? = some z ∧ PyData.eqv z y = true ∧ ∀ m z', m < j - n → zs[m]? = some z' → PyData.eqv z' y = false
  | [], _, _, e => by cases e
  | z :: zs, n, j, e => by
    unfold firstAt at e
    split at e
    · cases e
      refine ⟨Nat.le_refl _, z, by simp, by assumption, fun m z' hm => by omega⟩
    · rename_i hne
      obtain ⟨h1, z1, h2, h3, h4⟩ := firstAt_some e
      refine ⟨by omega, z1, ?_, h3, fun m z' hm ez => ?_⟩
      · rw [show j - n = (j - (n + 1)) + 1 by omega]
        simpa using h2
      · cases m with
        | zero =>
          have : z = z' := by simpa using ez
          subst this
          simpa using hne
        | succ m => exact h4 m z' (by omega) (by simpa using ez)
theorem xindex {s : Expr} (he : PE X s (tBM X.K "list" (rIndex X.K) (tX X.K W f) (tCons (tX X.K W g) tNil))) : PE X s (tX X.K W (indexF f g)) := by
  refine peTo he fun σ H Q q => ?_
  obtain ⟨h, ρ, rfl, R, q⟩ := tX_iff.mp q
  refine (tX_mk (f := f) R (q.bind fun a x h1 ea R1 g1 ok1 q1 => ?_) : tX X.K W f σ h.H _)
  split at q1
  · rename_i xs exs
    obtain ⟨p1, vs, rfl, s1, d1⟩ := dp_lst (ok1.dp R1.ch exs)
    refine ⟨.inl ⟨rfl, vs, s1⟩, ?_⟩
    refine (tX_mk (f := g) R1 (q1.bind fun b y h2 _ R2 g2 ok2 q2 => ?_) : tX X.K W g σ h1.H _)
    unfold indexR at q2
    cases eb : b.dat with
    | none => rw [eb] at q2; exact q2.elim
    | some d =>
      rw [eb] at q2
      dsimp only at q2
      split at q2
      · rename_i hc
        split at q2
        · rename_i j ej
          obtain ⟨_, z, h3, h4, h5⟩ := firstAt_some ej
          simp only [Nat.sub_zero] at h3 h5
          have d2 := ex_dpa g2.x d1
          have dy := ok2.dp R2.ch eb
          obtain ⟨vz, e1, e2⟩ := d2.get h3
          have fz : ∀ (m : Nat) z', xs[m]? = some z' → flatD z' = true := fun m z' e => List.all_eq_true.mp hc.1 z' (List.mem_of_getElem? e)
          refine ⟨p1, vs, y, j, vz, rfl, rfl, ex_l g2.x s1, dp_flat dy hc.2, dp_flats d2 hc.1, e1, ?_, fun m v' hm ev => ?_, q2.now R2 (.int _)⟩
          · rw [dp_eqV e2 dy (fz _ _ h3) hc.2]
            exact h4
          · obtain ⟨z', e3, e4⟩ := d2.getV ev
            rw [dp_eqV e4 dy (fz _ _ e3) hc.2]
            exact h5 m z' hm e3
        · exact q2.elim
      · exact q2.elim
  · exact q1.elim
/-! a op b op' c -/
def chF (φ ψ : Rv → Rv → Er Rv) (f g k : EF) : EF := fun ρ => (f ρ).bind fun a => (g ρ).bind fun b => (φ a b).bind fun r => r.tst.bind fun c => if c = true then (k ρ).bind fun d => ψ b d else .ok (.v (.bool false))
theorem chain_of {φ ψ : Rv → Rv → Er Rv} {r r' : R2} (hφ : OpOk K W φ r) (hψ : OpOk K W ψ r') : ∀ σ H Q, tX K W (chF φ ψ f g k) σ H Q → tChain r r' (tX K W f) (tX K W g) (tX K W k) σ H Q := by
  intro σ H Q q
  obtain ⟨h, ρ, rfl, R, q⟩ := tX_iff.mp q
  refine tX_mk R (q.bind fun a x h1 _ R1 g1 ok1 q1 => ?_)
  refine tX_mk R1 (q1.bind fun b y h2 _ R2 g2 ok2 q2 => ?_)
  refine hφ h h2 ρ σ x y a b _ R R2 (g1.trans g2) (ok1.grow g2) (ok2.old g1.x) ?_
  refine q2.bind fun c z h3 _ R3 g3 ok3 q3 => ?_
  obtain ⟨kk, ez, q4⟩ := tst_nowE q3 ok3
  refine ⟨kk, ez, ?_⟩
  cases kk with
  | true =>
    rw [if_pos rfl] at q4 ⊢
    refine tX_mk R3 (q4.bind fun d u h5 _ R5 g5 ok5 q5 => ?_)
    exact hψ h1 h5 ρ σ y u b d _ R1 R5 (g2.trans (g3.trans g5)) ((ok2.grow g3).grow g5) (ok5.old (g2.trans g3).x) q5
  | false =>
    rw [if_neg (by decide)] at q4 ⊢
    exact q4.now R3 (.bl _)
section
variable {op op' : CmpOp} {r r' : R2} {φ ψ : Rv → Rv → Er Rv}
theorem xchain (ho : OpR X (compareOp op) r) (ho' : OpR X (compareOp op') r') (hφ : OpOk X.K W φ r) (hψ : OpOk X.K W ψ r') (ha : PE X a (tX X.K W f)) (hb : PE X b (tX X.K W g)) (hc : PE X c (tX X.K W k)) (hm : lastMarks [op, op'] [b, c] = false := by with_unfolding_all rfl) : PE X (.Compare a [op, op'] [b, c] pos) (tX X.K W (chF φ ψ f g k)) :=
  peTo (pe_chain ho ho' ha hb hc hm) (chain_of hφ hψ)
theorem xtchain (ho : OpR X (compareOp op) r) (ho' : OpR X (compareOp op') r') (hφ : OpOk X.K W φ r) (hψ : OpOk X.K W ψ r') (ha : PE X a (tX X.K W f)) (hb : PE X b (tX X.K W g)) (hc : PE X c (tX X.K W k)) (hm : lastMarks [op, op'] [b, c] = false := by with_unfolding_all rfl) : PT X (.Compare a [op, op'] [b, c] pos) (tXt X.K W (tstF (chF φ ψ f g k))) :=
  ptTo (pt_chain ho ho' ha hb hc hm) fun σ H Q q => tTest_mono (chain_of hφ hψ) σ H Q (tst_of σ H Q q)
end
theorem al_nil : ∀ ρ rs, aNil ρ = .ok rs → rs.length = 0 := fun ρ rs e => by cases e; rfl
theorem al_cons {f : EF} {r : AF} {n : Nat} (h : ∀ ρ rs, r ρ = .ok rs → rs.length = n) : ∀ ρ rs, aCons f r ρ = .ok rs → rs.length = n + 1 := fun ρ rs e => by
  unfold aCons at e
  obtain ⟨a, _, e⟩ := ebind_ok e
  obtain ⟨b, _, e⟩ := ebind_ok e
  obtain ⟨c, e1, e⟩ := ebind_ok e
  cases e
  rw [List.length_cons, h ρ c e1]
end
end Sq

/-! The law's own promise. -/
namespace Sq
open PySem PySem.Spec PyProof.Rows L2
def lawSp (K : PySem.W.Frag) : Sp := fun vs H Q _ => ∃ (a : Addr) (ns : List Int), vs = [.ref a] ∧ ns.length ≤ 63 ∧ SqL K H a (ns.map V.int) ∧ ∀ H', Q (.bl true) H'
theorem lawSp_imp {K : PySem.W.Frag} {cm : Str → Addr} {g : List Sl → Fr} (hg : ∀ ns : List Int, ns.length ≤ 63 → g [.v (.list (ns.map .int))] = .ret (.v (.bool true))) : ∀ vs H Q E, lawSp K vs H Q E → fsp K cm 1 g vs H Q E := by
  rintro vs H Q E ⟨a, ns, rfl, hl, hS, q⟩
  refine ⟨rfl, H, [.v (.list (ns.map .int))], Ex.refl H, ⟨.lst hS (ints_all ns), trivial⟩, ?_⟩
  rw [hg ns hl]
  intro v G' H' _ ok
  cases ok
  exact q H'
theorem law_sp {K : PySem.W.Frag} (H : Hp) (a : Addr) (ns : List Int) (hl : ns.length ≤ 63) (hS : SqL K H a (ns.map V.int)) : lawSp K [.ref a] H (fun v _ => v = .bl true) fun _ _ _ => False := ⟨a, ns, rfl, hl, hS, fun _ => rfl⟩
theorem cx_none {P : Program} {w : World} {H : Hp} {s : Shared} {e : Value} {s' : Shared} (h : L2.CX P w [] H s (fun _ _ _ => False) e s') : False := by
  obtain ⟨_, _, _, _, _, _, _, _, _, _, _, _, z⟩ := h
  exact z
end Sq

/-! How pure bodies are reckoned: rules for simp, loops by what holds. -/
namespace Sq
open PySem L2
section
variable {f g k : EF} {s s1 s2 : SF} {ρ : Env} {φ ψ : Rv → Rv → Er Rv}
@[simp] theorem bind_ok {α β : Type} (a : α) (h : α → Er β) : (Er.ok a).bind h = h a := (rfl)
@[simp] theorem bind_exc {α β : Type} (c : Str) (p) (h : α → Er β) : (Er.exc c p : Er α).bind h = .exc c p := (rfl)
@[simp] theorem bind_bad {α β : Type} (h : α → Er β) : (Er.bad : Er α).bind h = .bad := (rfl)
@[simp] theorem noX_okk {α : Type} (a : α) : (Er.ok a).noX = .ok a := (rfl)
@[simp] theorem varF_e (i : Nat) : varF i ρ = (slot ρ i).rd := (rfl)
@[simp] theorem rd_v (d : D) : (Sl.v d).rd = .ok (.v d) := (rfl)
@[simp] theorem rd_b (d : D) : (Sl.b d).rd = .ok (.b d) := (rfl)
@[simp] theorem rd_o (d : List D) : (Sl.o d).rd = .ok (.w d) := (rfl)
@[simp] theorem rd_k (d : List (Key × D)) : (Sl.k d).rd = .ok (.wk d) := (rfl)
@[simp] theorem cF_e (d : D) : cF d ρ = .ok (.v d) := (rfl)
@[simp] theorem binF_e : binF φ f g ρ = (f ρ).bind fun a => (g ρ).bind fun b => φ a b := (rfl)
@[simp] theorem unF_e (χ : Rv → Er Rv) : unF χ f ρ = (f ρ).bind χ := (rfl)
@[simp] theorem chF_e : chF φ ψ f g k ρ = (f ρ).bind fun a => (g ρ).bind fun b => (φ a b).bind fun r => r.tst.bind fun c => if c = true then (k ρ).bind fun d => ψ b d else .ok (.v (.bool false)) := (rfl)
@[simp] theorem dat_v (d : D) : (Rv.v d).dat = some d := (rfl)
@[simp] theorem dat_b (d : D) : (Rv.b d).dat = some d := (rfl)
@[simp] theorem dat_r (d : D) : (Rv.r d).dat = some d := (rfl)
@[simp] theorem dat_w (d : List D) : (Rv.w d).dat = some (.list d) := (rfl)
@[simp] theorem dat_o (d : List D) : (Rv.o d).dat = some (.list d) := (rfl)
@[simp] theorem flat2_e (χ : D → D → Er D) {a b : Rv} {x y : D} (ha : a.dat = some x) (hb : b.dat = some y) : flat2 χ a b = (χ x y).bind fun d => .ok (.v d) := by
  unfold flat2
  rw [ha, hb]
@[simp] theorem int2_e (χ : Int → Int → Er D) (i j : Int) : int2 χ (.int i) (.int j) = χ i j := (rfl)
@[simp] theorem iadd_e (i j : Int) : iadd i j = .ok (.int (i + j)) := (rfl)
@[simp] theorem isub_e (i j : Int) : isub i j = .ok (.int (i - j)) := (rfl)
theorem imul_l {i j : Int} (h : -(2 ^ 64) < i ∧ i < 2 ^ 64) : imul i j = .ok (.int (i * j)) := by
  unfold imul
  rw [if_pos (.inl h)]
theorem imul_r {i j : Int} (h : -(2 ^ 64) < j ∧ j < 2 ^ 64) : imul i j = .ok (.int (i * j)) := by
  unfold imul
  rw [if_pos (.inr (.inl h))]
theorem idiv_s {i j : Int} (h : 0 < j ∧ j < 1073741824) : idiv i j = .ok (.int (i / j)) := by
  unfold idiv
  rw [if_pos ⟨h.1, .inl h.2⟩]
theorem imod_s {i j : Int} (h : 0 < j) : imod i j = .ok (.int (i % j)) := by
  unfold imod
  rw [if_pos h]
@[simp] theorem addR_ii (i j : Int) : addR (.v (.int i)) (.v (.int j)) = .ok (.v (.int (i + j))) := (rfl)
@[simp] theorem negR_i (i : Int) : negR (.v (.int i)) = .ok (.v (.int (-i))) := (rfl)
@[simp] theorem ilt_e (i j : Int) : ilt i j = .ok (.bool (decide (i < j))) := (rfl)
@[simp] theorem ile_e (i j : Int) : ile i j = .ok (.bool (decide (i ≤ j))) := (rfl)
@[simp] theorem igt_e (i j : Int) : igt i j = .ok (.bool (decide (j < i))) := (rfl)
@[simp] theorem ige_e (i j : Int) : ige i j = .ok (.bool (decide (j ≤ i))) := (rfl)
@[simp] theorem tst_v (c : Bool) : (Rv.v (.bool c)).tst = .ok c := (rfl)
@[simp] theorem tstF_e : tstF f ρ = (f ρ).bind Rv.tst := (rfl)
variable {t u : Env → Er Bool}
@[simp] theorem andF_e : andF f g ρ = (f ρ).bind fun a => a.tst.bind fun k => if k = true then g ρ else .ok (.v (.bool false)) := (rfl)
@[simp] theorem orF_e : orF f g ρ = (f ρ).bind fun a => a.tst.bind fun k => if k = true then .ok (.v (.bool true)) else g ρ := (rfl)
@[simp] theorem notF_e : notF f ρ = (f ρ).bind fun a => a.tst.bind fun k => .ok (.v (.bool (!k))) := (rfl)
@[simp] theorem andT_e : andT t u ρ = (t ρ).bind fun k => if k = true then u ρ else .ok false := (rfl)
@[simp] theorem orT_e : orT t u ρ = (t ρ).bind fun k => if k = true then .ok true else u ρ := (rfl)
@[simp] theorem notT_e : notT t ρ = (t ρ).bind fun k => .ok (!k) := (rfl)
@[simp] theorem ifF_e : ifF t f g ρ = (t ρ).bind fun k => if k = true then f ρ else g ρ := (rfl)
@[simp] theorem frz_v (d : D) : (Rv.v d).frz = .ok (.v d) := (rfl)
@[simp] theorem frz_b (d : D) : (Rv.b d).frz = .ok (.b d) := (rfl)
@[simp] theorem frz_r (d : D) : (Rv.r d).frz = .ok (.r d) := (rfl)
@[simp] theorem frz_w (d : List D) : (Rv.w d).frz = .ok (.r (.list d)) := (rfl)
@[simp] theorem frz_o (d : List D) : (Rv.o d).frz = .ok (.v (.list d)) := (rfl)
@[simp] theorem aNil_e : aNil ρ = .ok [] := (rfl)
@[simp] theorem aCons_e (r : AF) : aCons f r ρ = (f ρ).bind fun a => a.frz.bind fun a' => (r ρ).bind fun as => .ok (a' :: as) := (rfl)
@[simp] theorem tupF_e (r : AF) : tupF r ρ = (r ρ).bind tupR := (rfl)
@[simp] theorem lstF_e (r : AF) : lstF r ρ = (r ρ).bind lstR := (rfl)
@[simp] theorem allV_nil : allV [] = some [] := (rfl)
@[simp] theorem allV_cons (d : D) (rs : List Rv) : allV (.v d :: rs) = (allV rs).map (d :: ·) := (rfl)
theorem tupR_v {rs : List Rv} {ds : List D} (h : allV rs = some ds) (hl : rs.length ≤ 1000) : tupR rs = .ok (.v (.tuple ds)) := by
  unfold tupR
  rw [if_pos hl, h]
theorem lstR_v {rs : List Rv} {ds : List D} (h : allV rs = some ds) (hl : rs.length ≤ 1000) : lstR rs = .ok (.o ds) := by
  unfold lstR
  rw [if_pos hl, h]
@[simp] theorem tupR_1 (a : D) : tupR [.v a] = .ok (.v (.tuple [a])) := (rfl)
@[simp] theorem tupR_2 (a b : D) : tupR [.v a, .v b] = .ok (.v (.tuple [a, b])) := (rfl)
@[simp] theorem tupR_2bb (a b : D) : tupR [.b a, .b b] = .ok (.b (.tuple [a, b])) := (rfl)
@[simp] theorem tupR_2vb (a b : D) : tupR [.v a, .b b] = .ok (.b (.tuple [a, b])) := (rfl)
@[simp] theorem tupR_2bv (a b : D) : tupR [.b a, .v b] = .ok (.b (.tuple [a, b])) := (rfl)
@[simp] theorem tupR_3 (a b c : D) : tupR [.v a, .v b, .v c] = .ok (.v (.tuple [a, b, c])) := (rfl)
@[simp] theorem tupR_4 (a b c d : D) : tupR [.v a, .v b, .v c, .v d] = .ok (.v (.tuple [a, b, c, d])) := (rfl)
@[simp] theorem lstR_0 : lstR [] = .ok (.o []) := (rfl)
@[simp] theorem lstR_1 (a : D) : lstR [.v a] = .ok (.o [a]) := (rfl)
@[simp] theorem lstR_2 (a b : D) : lstR [.v a, .v b] = .ok (.o [a, b]) := (rfl)
/-! subscripts -/
theorem alt_l {a b r : Rv} (h : φ a b = .ok r) : alt φ ψ a b = .ok r := by
  unfold Sq.alt
  rw [h]
theorem alt_r {a b : Rv} (h : φ a b = .bad) : alt φ ψ a b = ψ a b := by
  unfold Sq.alt
  rw [h]
theorem ixSeq_e {a : Rv} {i : Int} {r : Rv} (h : a.item i = some r) : ixSeq a (.v (.int i)) = .ok r := by
  show (match a.item i with | some r => Er.ok r | none => .bad) = _
  rw [h]
theorem ixR_vt {xs : List D} {i : Int} {d : D} (h : atI xs i = some d) : ixR (.v (.tuple xs)) (.v (.int i)) = .ok (.v d) := by
  refine (alt_r rfl).trans (alt_l (ixSeq_e ?_))
  show (atI xs i).map Rv.v = _
  rw [h]
  rfl
theorem ixR_vl {xs : List D} {i : Int} {d : D} (h : atI xs i = some d) : ixR (.v (.list xs)) (.v (.int i)) = .ok (.v d) := by
  refine (alt_r rfl).trans (alt_l (ixSeq_e ?_))
  show (atI xs i).map Rv.v = _
  rw [h]
  rfl
theorem ixR_bt {xs : List D} {i : Int} {d : D} (h : atI xs i = some d) : ixR (.b (.tuple xs)) (.v (.int i)) = .ok (.b d) := by
  refine (alt_r rfl).trans (alt_l (ixSeq_e ?_))
  show (atI xs i).map Rv.b = _
  rw [h]
  rfl
theorem ixR_bl {xs : List D} {i : Int} {d : D} (h : atI xs i = some d) : ixR (.b (.list xs)) (.v (.int i)) = .ok (.b d) := by
  refine (alt_r rfl).trans (alt_l (ixSeq_e ?_))
  show (atI xs i).map Rv.b = _
  rw [h]
  rfl
theorem ixR_w {xs : List D} {i : Int} {d : D} (h : atI xs i = some d) : ixR (.w xs) (.v (.int i)) = .ok (.v d) := by
  refine (alt_r rfl).trans (alt_l (ixSeq_e ?_))
  show (atI xs i).map Rv.v = _
  rw [h]
  rfl
theorem ixR_k {kvs : List (Key × D)} {b : Rv} {x : D} {q : Key} {d : D} (hb : b.dat = some x) (hk : keyD x = some q) (h : getK kvs q = some d) : ixR (.wk kvs) b = .ok (.v d) := by
  refine alt_l ?_
  unfold ixDic
  simp only [hb, Option.bind_some, hk, h]
@[simp] theorem at_nat {xs : List D} {i : Nat} : atI xs (i : Int) = xs[i]? := by
  unfold atI ixN
  rw [if_pos (Int.natCast_nonneg i)]
  by_cases h : i < xs.length
  · rw [if_pos (by omega)]
    rfl
  · rw [if_neg (by omega), List.getElem?_eq_none (by omega)]
    rfl
@[simp] theorem lenR_vt (xs : List D) : lenR (.v (.tuple xs)) = .ok (.v (.int xs.length)) := (rfl)
@[simp] theorem lenR_vl (xs : List D) : lenR (.v (.list xs)) = .ok (.v (.int xs.length)) := (rfl)
@[simp] theorem lenR_bt (xs : List D) : lenR (.b (.tuple xs)) = .ok (.v (.int xs.length)) := (rfl)
@[simp] theorem lenR_bl (xs : List D) : lenR (.b (.list xs)) = .ok (.v (.int xs.length)) := (rfl)
@[simp] theorem lenR_w (xs : List D) : lenR (.w xs) = .ok (.v (.int xs.length)) := (rfl)
@[simp] theorem lenR_o (xs : List D) : lenR (.o xs) = .ok (.v (.int xs.length)) := (rfl)
@[simp] theorem lenR_wk (xs : List (Key × D)) : lenR (.wk xs) = .ok (.v (.int xs.length)) := (rfl)
@[simp] theorem listR_vl (xs : List D) : listR (.v (.list xs)) = .ok (.o xs) := (rfl)
@[simp] theorem listR_vt (xs : List D) : listR (.v (.tuple xs)) = .ok (.o xs) := (rfl)
@[simp] theorem listR_w (xs : List D) : listR (.w xs) = .ok (.o xs) := (rfl)
@[simp] theorem listR_o (xs : List D) : listR (.o xs) = .ok (.o xs) := (rfl)
@[simp] theorem tupleR_vl (xs : List D) : tupleR (.v (.list xs)) = .ok (.v (.tuple xs)) := (rfl)
@[simp] theorem tupleR_vt (xs : List D) : tupleR (.v (.tuple xs)) = .ok (.v (.tuple xs)) := (rfl)
@[simp] theorem tupleR_bt (xs : List D) : tupleR (.b (.tuple xs)) = .ok (.b (.tuple xs)) := (rfl)
@[simp] theorem tupleR_w (xs : List D) : tupleR (.w xs) = .ok (.v (.tuple xs)) := (rfl)
@[simp] theorem tupleR_o (xs : List D) : tupleR (.o xs) = .ok (.v (.tuple xs)) := (rfl)
theorem tupleR_bl {xs : List D} (h : xs.all flatD = true) : tupleR (.b (.list xs)) = .ok (.v (.tuple xs)) := by
  show (if xs.all flatD = true then Er.ok (Rv.v (.tuple xs)) else .bad) = _
  rw [if_pos h]
theorem listR_bl {xs : List D} (h : xs.all flatD = true) : listR (.b (.list xs)) = .ok (.o xs) := by
  show (if xs.all flatD = true then Er.ok (Rv.o xs) else .bad) = _
  rw [if_pos h]
theorem listR_bt {xs : List D} (h : xs.all flatD = true) : listR (.b (.tuple xs)) = .ok (.o xs) := by
  show (if xs.all flatD = true then Er.ok (Rv.o xs) else .bad) = _
  rw [if_pos h]
@[simp] theorem absR_i (i : Int) : absR (.v (.int i)) = .ok (.v (.int (if i < 0 then -i else i))) := (rfl)
@[simp] theorem keep_v (d : D) : (Rv.v d).keep = .ok d := (rfl)
@[simp] theorem keep_o (d : List D) : (Rv.o d).keep = .ok (.list d) := (rfl)
@[simp] theorem keep_bi (i : Int) : (Rv.b (.int i)).keep = .ok (.int i) := (rfl)
@[simp] theorem keep_ri (i : Int) : (Rv.r (.int i)).keep = .ok (.int i) := (rfl)
/-! calls -/
@[simp] theorem callF_e (h : List Sl → Fr) (r : AF) : callF h r ρ = (r ρ).bind fun rs => (h (rs.map Rv.sl)).rv := (rfl)
@[simp] theorem sl_v (d : D) : (Rv.v d).sl = .v d := (rfl)
@[simp] theorem sl_b (d : D) : (Rv.b d).sl = .b d := (rfl)
@[simp] theorem sl_r (d : D) : (Rv.r d).sl = .b d := (rfl)
@[simp] theorem rv_v (d : D) : (Fr.ret (.v d)).rv = .ok (.v d) := (rfl)
@[simp] theorem rv_b (d : D) : (Fr.ret (.b d)).rv = .ok (.r d) := (rfl)
@[simp] theorem rv_o (d : List D) : (Fr.ret (.o d)).rv = .ok (.o d) := (rfl)
@[simp] theorem rv_exc (c : Str) (p) : (Fr.exc c p).rv = .exc c p := (rfl)
/-! statements -/
@[simp] theorem skipS_e : skipS ρ = .next ρ := (rfl)
@[simp] theorem brkS_e : brkS ρ = .brk ρ := (rfl)
@[simp] theorem contS_e : contS ρ = .cont ρ := (rfl)
def seqR (r : Res) (g : SF) : Res := match r with
  | .next ρ' => g ρ'
  | r => r
@[simp] theorem seqS_e : seqS s1 s2 ρ = seqR (s1 ρ) s2 := (rfl)
@[simp] theorem seqR_n (ρ' : Env) : seqR (.next ρ') s = s ρ' := (rfl)
@[simp] theorem seqR_r (r : Rv) : seqR (.ret r) s = .ret r := (rfl)
@[simp] theorem seqR_b (ρ' : Env) : seqR (.brk ρ') s = .brk ρ' := (rfl)
@[simp] theorem seqR_c (ρ' : Env) : seqR (.cont ρ') s = .cont ρ' := (rfl)
@[simp] theorem seqR_x (c : Str) (p) (ρ' : Env) : seqR (.exc c p ρ') s = .exc c p ρ' := (rfl)
@[simp] theorem seqR_d : seqR .bad s = .bad := (rfl)
theorem seqR_if (c : Bool) (a b : Res) : seqR (if c = true then a else b) s = if c = true then seqR a s else seqR b s := by
  cases c <;> rfl
@[simp] theorem thenS_ok (r : Rv) (h : Rv → Res) : thenS ρ (.ok r) h = h r := (rfl)
@[simp] theorem thenS_x (c : Str) (p) (h : Rv → Res) : thenS ρ (.exc c p) h = .exc c p ρ := (rfl)
@[simp] theorem thenT_ok (r : Bool) (h : Bool → Res) : thenT ρ (.ok r) h = h r := (rfl)
@[simp] theorem thenT_x (c : Str) (p) (h : Bool → Res) : thenT ρ (.exc c p) h = .exc c p ρ := (rfl)
@[simp] theorem thenI_ok (r : List Rv) (h : List Rv → Res) : thenI ρ (.ok r) h = h r := (rfl)
@[simp] theorem thenM_ok (r : Rv) (ρ' : Env) (h : Rv → Env → Res) : thenM ρ (.ok (r, ρ')) h = h r ρ' := (rfl)
@[simp] theorem liftE_ok (ρ' : Env) : liftE ρ (.ok ρ') = .next ρ' := (rfl)
variable {τ : TF}
@[simp] theorem asgS_e : asgS f τ ρ = thenS ρ (f ρ) fun r => liftE ρ (τ r ρ) := (rfl)
@[simp] theorem asgn_v (i : Nat) (d : D) : asgn i (.v d) ρ = .ok (ρ.set i (.v d)) := (rfl)
@[simp] theorem asgn_b (i : Nat) (d : D) : asgn i (.b d) ρ = .ok (ρ.set i (.b d)) := (rfl)
@[simp] theorem asgn_o (i : Nat) (d : List D) : asgn i (.o d) ρ = .ok (ρ.set i (.o d)) := (rfl)
@[simp] theorem asgn_okd (i : Nat) (d : List (Key × D)) : asgn i (.ok d) ρ = .ok (ρ.set i (.k d)) := (rfl)
@[simp] theorem asgn_ri (i : Nat) (d : Int) : asgn i (.r (.int d)) ρ = .ok (ρ.set i (.v (.int d))) := (rfl)
@[simp] theorem unpT_2 (τ1 τ2 : TF) (a b : D) : unpT [τ1, τ2] (.v (.tuple [a, b])) ρ = (τ1 (.v a) ρ).bind fun ρ' => (τ2 (.v b) ρ').bind fun ρ'' => .ok ρ'' := (rfl)
@[simp] theorem unpT_2b (τ1 τ2 : TF) (a b : D) : unpT [τ1, τ2] (.b (.tuple [a, b])) ρ = (τ1 (.b a) ρ).bind fun ρ' => (τ2 (.b b) ρ').bind fun ρ'' => .ok ρ'' := (rfl)
@[simp] theorem unpT_4 (τ1 τ2 τ3 τ4 : TF) (a b c d : D) : unpT [τ1, τ2, τ3, τ4] (.v (.tuple [a, b, c, d])) ρ = (τ1 (.v a) ρ).bind fun ρ' => (τ2 (.v b) ρ').bind fun ρ'' => (τ3 (.v c) ρ'').bind fun ρ3 => (τ4 (.v d) ρ3).bind fun ρ4 => .ok ρ4 := (rfl)
@[simp] theorem retS_e : retS f ρ = thenS ρ (f ρ) retR := (rfl)
@[simp] theorem retR_v (d : D) : retR (.v d) = .ret (.v d) := (rfl)
@[simp] theorem retR_b (d : D) : retR (.b d) = .ret (.b d) := (rfl)
@[simp] theorem retR_o (d : List D) : retR (.o d) = .ret (.o d) := (rfl)
@[simp] theorem retR_ri (d : Int) : retR (.r (.int d)) = .ret (.v (.int d)) := (rfl)
def retSl : Sl → Res
  | .v d => .ret (.v d)
  | .b d => .ret (.b d)
  | .o xs => .ret (.o xs)
  | .k kvs => .ret (.ok kvs)
  | _ => .bad
@[simp] theorem retVar_e (i : Nat) : retVar i ρ = retSl (slot ρ i) := by
  unfold retVar retSl
  cases slot ρ i <;> rfl
@[simp] theorem retSl_v (d : D) : retSl (.v d) = .ret (.v d) := (rfl)
@[simp] theorem retSl_b (d : D) : retSl (.b d) = .ret (.b d) := (rfl)
@[simp] theorem retSl_o (d : List D) : retSl (.o d) = .ret (.o d) := (rfl)
@[simp] theorem ifS_e : ifS t s1 s2 ρ = thenT ρ (t ρ) fun b => if b = true then s1 ρ else s2 ρ := (rfl)
@[simp] theorem forS_e (it : IF) : forS it τ s ρ = thenI ρ (it ρ) fun rs => forL τ s rs ρ := (rfl)
@[simp] theorem exprS_e : exprS f ρ = thenS ρ (f ρ) fun _ => .next ρ := (rfl)
@[simp] theorem frzS_e (i : Nat) : frzS i s ρ = s (frzE ρ i) := (rfl)
@[simp] theorem frzE_e (i : Nat) : frzE ρ i = ρ.set i (slot ρ i).frz := (rfl)
@[simp] theorem sfrz_v (d : D) : (Sl.v d).frz = .v d := (rfl)
@[simp] theorem sfrz_b (d : D) : (Sl.b d).frz = .b d := (rfl)
@[simp] theorem sfrz_o (d : List D) : (Sl.o d).frz = .v (.list d) := (rfl)
@[simp] theorem sfrz_u : (Sl.u).frz = .u := (rfl)
@[simp] theorem sfrz_k (d : List (Key × D)) : (Sl.k d).frz = .k d := (rfl)
theorem appS_e {i : Nat} {xs : List D} (h : slot ρ i = .o xs) (hl : xs.length < 100000) : appS i f ρ = thenS ρ (f ρ) fun r => match r.keep with
    | .ok d => .next (ρ.set i (.o (xs ++ [d])))
    | _ => .bad := by
  unfold appS
  rw [h]
  show thenS ρ (f ρ) _ = _
  congr 1
  funext r
  cases r.keep <;> simp [hl]
theorem mutS_e {i : Nat} {xs : List D} {χ : List D → List D} (h : slot ρ i = .o xs) : mutS i χ ρ = .next (ρ.set i (.o (χ xs))) := by
  unfold mutS
  rw [h]
@[simp] theorem itF_e (it : Rv → Er (List Rv)) : itF it f ρ = (f ρ).bind it := (rfl)
@[simp] theorem enF_e (it : Rv → Er (List Rv)) : enF it f ρ = (f ρ).bind fun a => (it a).bind fun rs => .ok (enR 0 rs) := (rfl)
@[simp] theorem itS_vt (xs : List D) : itS (.v (.tuple xs)) = .ok (xs.map .v) := (rfl)
@[simp] theorem itS_vl (xs : List D) : itS (.v (.list xs)) = .ok (xs.map .v) := (rfl)
@[simp] theorem itS_bt (xs : List D) : itS (.b (.tuple xs)) = .ok (xs.map .b) := (rfl)
@[simp] theorem itS_bl (xs : List D) : itS (.b (.list xs)) = .ok (xs.map .b) := (rfl)
@[simp] theorem itS_o (xs : List D) : itS (.o xs) = .ok (xs.map .v) := (rfl)
@[simp] theorem itC_vt (xs : List D) : itC (.v (.tuple xs)) = .ok (xs.map .v) := (rfl)
@[simp] theorem itC_vl (xs : List D) : itC (.v (.list xs)) = .ok (xs.map .v) := (rfl)
@[simp] theorem itC_bt (xs : List D) : itC (.b (.tuple xs)) = .ok (xs.map .b) := (rfl)
@[simp] theorem itC_bl (xs : List D) : itC (.b (.list xs)) = .ok (xs.map .b) := (rfl)
@[simp] theorem itC_w (xs : List D) : itC (.w xs) = .ok (xs.map .v) := (rfl)
@[simp] theorem itC_o (xs : List D) : itC (.o xs) = .ok (xs.map .v) := (rfl)
theorem rg1_e {n : Int} {a : Rv} (h : f ρ = .ok a) (hd : a.dat = some (.int n)) (hn : n ≤ 1000000 ∧ -1000000 ≤ n) : rg1F f ρ = .ok (rgR 0 n) := by
  unfold rg1F
  rw [h]
  show (match a.dat with | some (.int n) => if n ≤ 1000000 ∧ -1000000 ≤ n then Er.ok (rgR 0 n) else .bad | _ => .bad) = _
  rw [hd]
  show (if n ≤ 1000000 ∧ -1000000 ≤ n then Er.ok (rgR 0 n) else .bad) = _
  rw [if_pos hn]
theorem rgR_nat (n : Nat) : rgR 0 (n : Int) = (List.range n).map fun (i : Nat) => Rv.v (.int (i : Int)) := by
  unfold rgR
  have : ((n : Int) - 0).toNat = n := by omega
  rw [this]
  congr 1
  funext i
  rw [Int.zero_add]
theorem lrg_e {n : Nat} {a : Rv} (h : f ρ = .ok a) (hd : a.dat = some (.int (n : Int))) (hn : n ≤ 1000000) : lrgF (cF (.int 0)) f ρ = .ok (.o ((List.range n).map fun (i : Nat) => .int (i : Int))) := by
  unfold lrgF
  rw [h]
  show (match (some (.int 0) : Option D), a.dat with | some (.int i), some (.int j) => if (0 ≤ i ∧ i ≤ 1000000) ∧ (0 ≤ j ∧ j ≤ 1000000) then Er.ok (Rv.o (intsD i j)) else .bad | _, _ => .bad) = _
  rw [hd]
  show (if ((0 : Int) ≤ 0 ∧ (0 : Int) ≤ 1000000) ∧ (0 ≤ (n : Int) ∧ (n : Int) ≤ 1000000) then Er.ok (Rv.o (intsD 0 n)) else .bad) = _
  rw [if_pos (by omega)]
  unfold intsD
  have : ((n : Int) - 0).toNat = n := by omega
  rw [this]
  congr 2
  apply List.map_congr_left
  intro i _
  rw [Int.zero_add]

@[simp] theorem slot_0 (a0 : Sl) (ρ : Env) : slot (a0 :: ρ) 0 = a0 := (rfl)
@[simp] theorem set_0 (a0 x : Sl) (ρ : Env) : List.set (a0 :: ρ) 0 x = x :: ρ := (rfl)
@[simp] theorem slot_1 (a0 a1 : Sl) (ρ : Env) : slot (a0 :: a1 :: ρ) 1 = a1 := (rfl)
@[simp] theorem set_1 (a0 a1 x : Sl) (ρ : Env) : List.set (a0 :: a1 :: ρ) 1 x = a0 :: x :: ρ := (rfl)
@[simp] theorem slot_2 (a0 a1 a2 : Sl) (ρ : Env) : slot (a0 :: a1 :: a2 :: ρ) 2 = a2 := (rfl)
@[simp] theorem set_2 (a0 a1 a2 x : Sl) (ρ : Env) : List.set (a0 :: a1 :: a2 :: ρ) 2 x = a0 :: a1 :: x :: ρ := (rfl)
@[simp] theorem slot_3 (a0 a1 a2 a3 : Sl) (ρ : Env) : slot (a0 :: a1 :: a2 :: a3 :: ρ) 3 = a3 := (rfl)
@[simp] theorem set_3 (a0 a1 a2 a3 x : Sl) (ρ : Env) : List.set (a0 :: a1 :: a2 :: a3 :: ρ) 3 x = a0 :: a1 :: a2 :: x :: ρ := (rfl)
@[simp] theorem slot_4 (a0 a1 a2 a3 a4 : Sl) (ρ : Env) : slot (a0 :: a1 :: a2 :: a3 :: a4 :: ρ) 4 = a4 := (rfl)
@[simp] theorem set_4 (a0 a1 a2 a3 a4 x : Sl) (ρ : Env) : List.set (a0 :: a1 :: a2 :: a3 :: a4 :: ρ) 4 x = a0 :: a1 :: a2 :: a3 :: x :: ρ := (rfl)
@[simp] theorem slot_5 (a0 a1 a2 a3 a4 a5 : Sl) (ρ : Env) : slot (a0 :: a1 :: a2 :: a3 :: a4 :: a5 :: ρ) 5 = a5 := (rfl)
@[simp] theorem set_5 (a0 a1 a2 a3 a4 a5 x : Sl) (ρ : Env) : List.set (a0 :: a1 :: a2 :: a3 :: a4 :: a5 :: ρ) 5 x = a0 :: a1 :: a2 :: a3 :: a4 :: x :: ρ := (rfl)
@[simp] theorem slot_6 (a0 a1 a2 a3 a4 a5 a6 : Sl) (ρ : Env) : slot (a0 :: a1 :: a2 :: a3 :: a4 :: a5 :: a6 :: ρ) 6 = a6 := (rfl)
@[simp] theorem set_6 (a0 a1 a2 a3 a4 a5 a6 x : Sl) (ρ : Env) : List.set (a0 :: a1 :: a2 :: a3 :: a4 :: a5 :: a6 :: ρ) 6 x = a0 :: a1 :: a2 :: a3 :: a4 :: a5 :: x :: ρ := (rfl)
@[simp] theorem slot_7 (a0 a1 a2 a3 a4 a5 a6 a7 : Sl) (ρ : Env) : slot (a0 :: a1 :: a2 :: a3 :: a4 :: a5 :: a6 :: a7 :: ρ) 7 = a7 := (rfl)
@[simp] theorem set_7 (a0 a1 a2 a3 a4 a5 a6 a7 x : Sl) (ρ : Env) : List.set (a0 :: a1 :: a2 :: a3 :: a4 :: a5 :: a6 :: a7 :: ρ) 7 x = a0 :: a1 :: a2 :: a3 :: a4 :: a5 :: a6 :: x :: ρ := (rfl)
@[simp] theorem slot_8 (a0 a1 a2 a3 a4 a5 a6 a7 a8 : Sl) (ρ : Env) : slot (a0 :: a1 :: a2 :: a3 :: a4 :: a5 :: a6 :: a7 :: a8 :: ρ) 8 = a8 := (rfl)
@[simp] theorem set_8 (a0 a1 a2 a3 a4 a5 a6 a7 a8 x : Sl) (ρ : Env) : List.set (a0 :: a1 :: a2 :: a3 :: a4 :: a5 :: a6 :: a7 :: a8 :: ρ) 8 x = a0 :: a1 :: a2 :: a3 :: a4 :: a5 :: a6 :: a7 :: x :: ρ := (rfl)
@[simp] theorem slot_9 (a0 a1 a2 a3 a4 a5 a6 a7 a8 a9 : Sl) (ρ : Env) : slot (a0 :: a1 :: a2 :: a3 :: a4 :: a5 :: a6 :: a7 :: a8 :: a9 :: ρ) 9 = a9 := (rfl)
@[simp] theorem set_9 (a0 a1 a2 a3 a4 a5 a6 a7 a8 a9 x : Sl) (ρ : Env) : List.set (a0 :: a1 :: a2 :: a3 :: a4 :: a5 :: a6 :: a7 :: a8 :: a9 :: ρ) 9 x = a0 :: a1 :: a2 :: a3 :: a4 :: a5 :: a6 :: a7 :: a8 :: x :: ρ := (rfl)
@[simp] theorem slot_10 (a0 a1 a2 a3 a4 a5 a6 a7 a8 a9 a10 : Sl) (ρ : Env) : slot (a0 :: a1 :: a2 :: a3 :: a4 :: a5 :: a6 :: a7 :: a8 :: a9 :: a10 :: ρ) 10 = a10 := (rfl)
@[simp] theorem set_10 (a0 a1 a2 a3 a4 a5 a6 a7 a8 a9 a10 x : Sl) (ρ : Env) : List.set (a0 :: a1 :: a2 :: a3 :: a4 :: a5 :: a6 :: a7 :: a8 :: a9 :: a10 :: ρ) 10 x = a0 :: a1 :: a2 :: a3 :: a4 :: a5 :: a6 :: a7 :: a8 :: a9 :: x :: ρ := (rfl)
@[simp] theorem slot_11 (a0 a1 a2 a3 a4 a5 a6 a7 a8 a9 a10 a11 : Sl) (ρ : Env) : slot (a0 :: a1 :: a2 :: a3 :: a4 :: a5 :: a6 :: a7 :: a8 :: a9 :: a10 :: a11 :: ρ) 11 = a11 := (rfl)
@[simp] theorem set_11 (a0 a1 a2 a3 a4 a5 a6 a7 a8 a9 a10 a11 x : Sl) (ρ : Env) : List.set (a0 :: a1 :: a2 :: a3 :: a4 :: a5 :: a6 :: a7 :: a8 :: a9 :: a10 :: a11 :: ρ) 11 x = a0 :: a1 :: a2 :: a3 :: a4 :: a5 :: a6 :: a7 :: a8 :: a9 :: a10 :: x :: ρ := (rfl)
@[simp] theorem slot_12 (a0 a1 a2 a3 a4 a5 a6 a7 a8 a9 a10 a11 a12 : Sl) (ρ : Env) : slot (a0 :: a1 :: a2 :: a3 :: a4 :: a5 :: a6 :: a7 :: a8 :: a9 :: a10 :: a11 :: a12 :: ρ) 12 = a12 := (rfl)
@[simp] theorem set_12 (a0 a1 a2 a3 a4 a5 a6 a7 a8 a9 a10 a11 a12 x : Sl) (ρ : Env) : List.set (a0 :: a1 :: a2 :: a3 :: a4 :: a5 :: a6 :: a7 :: a8 :: a9 :: a10 :: a11 :: a12 :: ρ) 12 x = a0 :: a1 :: a2 :: a3 :: a4 :: a5 :: a6 :: a7 :: a8 :: a9 :: a10 :: a11 :: x :: ρ := (rfl)
@[simp] theorem slot_13 (a0 a1 a2 a3 a4 a5 a6 a7 a8 a9 a10 a11 a12 a13 : Sl) (ρ : Env) : slot (a0 :: a1 :: a2 :: a3 :: a4 :: a5 :: a6 :: a7 :: a8 :: a9 :: a10 :: a11 :: a12 :: a13 :: ρ) 13 = a13 := (rfl)
@[simp] theorem set_13 (a0 a1 a2 a3 a4 a5 a6 a7 a8 a9 a10 a11 a12 a13 x : Sl) (ρ : Env) : List.set (a0 :: a1 :: a2 :: a3 :: a4 :: a5 :: a6 :: a7 :: a8 :: a9 :: a10 :: a11 :: a12 :: a13 :: ρ) 13 x = a0 :: a1 :: a2 :: a3 :: a4 :: a5 :: a6 :: a7 :: a8 :: a9 :: a10 :: a11 :: a12 :: x :: ρ := (rfl)
@[simp] theorem slot_14 (a0 a1 a2 a3 a4 a5 a6 a7 a8 a9 a10 a11 a12 a13 a14 : Sl) (ρ : Env) : slot (a0 :: a1 :: a2 :: a3 :: a4 :: a5 :: a6 :: a7 :: a8 :: a9 :: a10 :: a11 :: a12 :: a13 :: a14 :: ρ) 14 = a14 := (rfl)
@[simp] theorem set_14 (a0 a1 a2 a3 a4 a5 a6 a7 a8 a9 a10 a11 a12 a13 a14 x : Sl) (ρ : Env) : List.set (a0 :: a1 :: a2 :: a3 :: a4 :: a5 :: a6 :: a7 :: a8 :: a9 :: a10 :: a11 :: a12 :: a13 :: a14 :: ρ) 14 x = a0 :: a1 :: a2 :: a3 :: a4 :: a5 :: a6 :: a7 :: a8 :: a9 :: a10 :: a11 :: a12 :: a13 :: x :: ρ := (rfl)
@[simp] theorem slot_15 (a0 a1 a2 a3 a4 a5 a6 a7 a8 a9 a10 a11 a12 a13 a14 a15 : Sl) (ρ : Env) : slot (a0 :: a1 :: a2 :: a3 :: a4 :: a5 :: a6 :: a7 :: a8 :: a9 :: a10 :: a11 :: a12 :: a13 :: a14 :: a15 :: ρ) 15 = a15 := (rfl)
@[simp] theorem set_15 (a0 a1 a2 a3 a4 a5 a6 a7 a8 a9 a10 a11 a12 a13 a14 a15 x : Sl) (ρ : Env) : List.set (a0 :: a1 :: a2 :: a3 :: a4 :: a5 :: a6 :: a7 :: a8 :: a9 :: a10 :: a11 :: a12 :: a13 :: a14 :: a15 :: ρ) 15 x = a0 :: a1 :: a2 :: a3 :: a4 :: a5 :: a6 :: a7 :: a8 :: a9 :: a10 :: a11 :: a12 :: a13 :: a14 :: x :: ρ := (rfl)
@[simp] theorem slot_16 (a0 a1 a2 a3 a4 a5 a6 a7 a8 a9 a10 a11 a12 a13 a14 a15 a16 : Sl) (ρ : Env) : slot (a0 :: a1 :: a2 :: a3 :: a4 :: a5 :: a6 :: a7 :: a8 :: a9 :: a10 :: a11 :: a12 :: a13 :: a14 :: a15 :: a16 :: ρ) 16 = a16 := (rfl)
@[simp] theorem set_16 (a0 a1 a2 a3 a4 a5 a6 a7 a8 a9 a10 a11 a12 a13 a14 a15 a16 x : Sl) (ρ : Env) : List.set (a0 :: a1 :: a2 :: a3 :: a4 :: a5 :: a6 :: a7 :: a8 :: a9 :: a10 :: a11 :: a12 :: a13 :: a14 :: a15 :: a16 :: ρ) 16 x = a0 :: a1 :: a2 :: a3 :: a4 :: a5 :: a6 :: a7 :: a8 :: a9 :: a10 :: a11 :: a12 :: a13 :: a14 :: a15 :: x :: ρ := (rfl)
@[simp] theorem slot_17 (a0 a1 a2 a3 a4 a5 a6 a7 a8 a9 a10 a11 a12 a13 a14 a15 a16 a17 : Sl) (ρ : Env) : slot (a0 :: a1 :: a2 :: a3 :: a4 :: a5 :: a6 :: a7 :: a8 :: a9 :: a10 :: a11 :: a12 :: a13 :: a14 :: a15 :: a16 :: a17 :: ρ) 17 = a17 := (rfl)
@[simp] theorem set_17 (a0 a1 a2 a3 a4 a5 a6 a7 a8 a9 a10 a11 a12 a13 a14 a15 a16 a17 x : Sl) (ρ : Env) : List.set (a0 :: a1 :: a2 :: a3 :: a4 :: a5 :: a6 :: a7 :: a8 :: a9 :: a10 :: a11 :: a12 :: a13 :: a14 :: a15 :: a16 :: a17 :: ρ) 17 x = a0 :: a1 :: a2 :: a3 :: a4 :: a5 :: a6 :: a7 :: a8 :: a9 :: a10 :: a11 :: a12 :: a13 :: a14 :: a15 :: a16 :: x :: ρ := (rfl)
@[simp] theorem slot_18 (a0 a1 a2 a3 a4 a5 a6 a7 a8 a9 a10 a11 a12 a13 a14 a15 a16 a17 a18 : Sl) (ρ : Env) : slot (a0 :: a1 :: a2 :: a3 :: a4 :: a5 :: a6 :: a7 :: a8 :: a9 :: a10 :: a11 :: a12 :: a13 :: a14 :: a15 :: a16 :: a17 :: a18 :: ρ) 18 = a18 := (rfl)
@[simp] theorem set_18 (a0 a1 a2 a3 a4 a5 a6 a7 a8 a9 a10 a11 a12 a13 a14 a15 a16 a17 a18 x : Sl) (ρ : Env) : List.set (a0 :: a1 :: a2 :: a3 :: a4 :: a5 :: a6 :: a7 :: a8 :: a9 :: a10 :: a11 :: a12 :: a13 :: a14 :: a15 :: a16 :: a17 :: a18 :: ρ) 18 x = a0 :: a1 :: a2 :: a3 :: a4 :: a5 :: a6 :: a7 :: a8 :: a9 :: a10 :: a11 :: a12 :: a13 :: a14 :: a15 :: a16 :: a17 :: x :: ρ := (rfl)
@[simp] theorem slot_19 (a0 a1 a2 a3 a4 a5 a6 a7 a8 a9 a10 a11 a12 a13 a14 a15 a16 a17 a18 a19 : Sl) (ρ : Env) : slot (a0 :: a1 :: a2 :: a3 :: a4 :: a5 :: a6 :: a7 :: a8 :: a9 :: a10 :: a11 :: a12 :: a13 :: a14 :: a15 :: a16 :: a17 :: a18 :: a19 :: ρ) 19 = a19 := (rfl)
@[simp] theorem set_19 (a0 a1 a2 a3 a4 a5 a6 a7 a8 a9 a10 a11 a12 a13 a14 a15 a16 a17 a18 a19 x : Sl) (ρ : Env) : List.set (a0 :: a1 :: a2 :: a3 :: a4 :: a5 :: a6 :: a7 :: a8 :: a9 :: a10 :: a11 :: a12 :: a13 :: a14 :: a15 :: a16 :: a17 :: a18 :: a19 :: ρ) 19 x = a0 :: a1 :: a2 :: a3 :: a4 :: a5 :: a6 :: a7 :: a8 :: a9 :: a10 :: a11 :: a12 :: a13 :: a14 :: a15 :: a16 :: a17 :: a18 :: x :: ρ := (rfl)
@[simp] theorem wipe_nil : wipeE ρ [] = ρ := rfl
@[simp] theorem wipe_cons (v : Nat) (vs : List Nat) : wipeE ρ (v :: vs) = (wipeE ρ vs).set v .u := (rfl)
/-! loops -/
theorem forL_rule {τ : TF} {s : SF} (P : Nat → Env → Prop) (G : Res → Prop) : ∀ (rs : List Rv) (j : Nat) (ρ : Env), P j ρ →
    (∀ i r ρ, rs[i]? = some r → P (j + i) ρ → ∃ ρ1, τ r ρ = .ok ρ1 ∧ (match s ρ1 with | .next ρ' => P (j + i + 1) ρ' | .cont ρ' => P (j + i + 1) ρ' | .brk ρ' => G (.next ρ') | x => G x)) →
    (∀ ρ, P (j + rs.length) ρ → G (.next ρ)) → G (forL τ s rs ρ)
  | [], j, ρ, h0, _, hd => hd ρ h0
  | r :: rs, j, ρ, h0, hs, hd => by
    obtain ⟨ρ1, e1, h1⟩ := hs 0 r ρ rfl h0
    unfold forL
    rw [e1]
    show G (match s ρ1 with | .next ρ' => forL τ s rs ρ' | .cont ρ' => forL τ s rs ρ' | .brk ρ' => .next ρ' | x => x)
    have ih : ∀ ρ', P (j + 1) ρ' → G (forL τ s rs ρ') := fun ρ' h' => forL_rule P G rs (j + 1) ρ' h' (fun i r' ρ2 e p => by
      have := hs (i + 1) r' ρ2 (by simpa using e) (by rw [show j + (i + 1) = j + 1 + i by omega]; exact p)
      rw [show j + (i + 1) + 1 = j + 1 + i + 1 by omega] at this
      exact this) (fun ρ2 p => hd ρ2 (by rw [List.length_cons, show j + (rs.length + 1) = j + 1 + rs.length by omega]; exact p))
    cases e : s ρ1 with
    | next ρ' => rw [e] at h1; exact ih ρ' h1
    | cont ρ' => rw [e] at h1; exact ih ρ' h1
    | brk ρ' => rw [e] at h1; exact h1
    | ret v => rw [e] at h1; exact h1
    | exc c p ρ' => rw [e] at h1; exact h1
    | bad => rw [e] at h1; exact h1
/-- a loop that goes through, by what holds behind each turn -/
theorem forL_go {τ : TF} {s : SF} {rs : List Rv} {ρ : Env} (P : Nat → Env → Prop) (h0 : P 0 ρ) (hs : ∀ i r ρ, rs[i]? = some r → P i ρ → ∃ ρ1 ρ', τ r ρ = .ok ρ1 ∧ s ρ1 = .next ρ' ∧ P (i + 1) ρ') : ∃ ρ', forL τ s rs ρ = .next ρ' ∧ P rs.length ρ' := by
  refine forL_rule P (fun r => ∃ ρ', r = .next ρ' ∧ P rs.length ρ') rs 0 ρ h0 (fun i r ρ e p => ?_) (fun ρ p => ⟨ρ, rfl, by simpa using p⟩)
  rw [Nat.zero_add] at p ⊢
  obtain ⟨ρ1, ρ', e1, e2, p'⟩ := hs i r ρ e p
  refine ⟨ρ1, e1, ?_⟩
  rw [e2]
  exact p'
theorem whileN_rule {t : Env → Er Bool} {s : SF} (P : Env → Prop) (μ : Env → Nat) (G : Res → Prop)
    (hs : ∀ ρ, P ρ → ∃ b, t ρ = .ok b ∧ (b = true → match s ρ with | .next ρ' => P ρ' ∧ μ ρ' < μ ρ | .cont ρ' => P ρ' ∧ μ ρ' < μ ρ | .brk ρ' => G (.next ρ') | x => G x) ∧ (b = false → G (.next ρ))) :
    ∀ (n : Nat) (ρ : Env), P ρ → μ ρ < n → G (whileN t s n ρ)
  | 0, ρ, _, h => by omega
  | n + 1, ρ, p, h => by
    obtain ⟨b, e, h1, h2⟩ := hs ρ p
    unfold whileN
    rw [e]
    show G (if b = true then (match s ρ with | .next ρ' => whileN t s n ρ' | .cont ρ' => whileN t s n ρ' | .brk ρ' => .next ρ' | x => x) else .next ρ)
    cases b with
    | false => exact h2 rfl
    | true =>
      rw [if_pos rfl]
      have h1 := h1 rfl
      cases e : s ρ with
      | next ρ' => rw [e] at h1; exact whileN_rule P μ G hs n ρ' h1.1 (by omega)
      | cont ρ' => rw [e] at h1; exact whileN_rule P μ G hs n ρ' h1.1 (by omega)
      | brk ρ' => rw [e] at h1; exact h1
      | ret v => rw [e] at h1; exact h1
      | exc c p ρ' => rw [e] at h1; exact h1
      | bad => rw [e] at h1; exact h1
theorem whileS_rule {t : Env → Er Bool} {s : SF} {ρ : Env} (P : Env → Prop) (μ : Env → Nat) (G : Res → Prop) (h0 : P ρ) (hμ : μ ρ < 1000000)
    (hs : ∀ ρ, P ρ → ∃ b, t ρ = .ok b ∧ (b = true → match s ρ with | .next ρ' => P ρ' ∧ μ ρ' < μ ρ | .cont ρ' => P ρ' ∧ μ ρ' < μ ρ | .brk ρ' => G (.next ρ') | x => G x) ∧ (b = false → G (.next ρ))) : G (whileS t s ρ) :=
  whileN_rule P μ G hs _ ρ h0 hμ
theorem whileS_go {t : Env → Er Bool} {s : SF} {ρ : Env} (P : Env → Prop) (μ : Env → Nat) (h0 : P ρ) (hμ : μ ρ < 1000000)
    (hs : ∀ ρ, P ρ → ∃ b, t ρ = .ok b ∧ (b = true → ∃ ρ', s ρ = .next ρ' ∧ P ρ' ∧ μ ρ' < μ ρ)) : ∃ ρ', whileS t s ρ = .next ρ' ∧ P ρ' ∧ t ρ' = .ok false := by
  refine whileS_rule P μ (fun r => ∃ ρ', r = .next ρ' ∧ P ρ' ∧ t ρ' = .ok false) h0 hμ fun ρ p => ?_
  obtain ⟨b, e, h⟩ := hs ρ p
  refine ⟨b, e, fun hb => ?_, fun hb => ⟨ρ, rfl, p, by rw [e, hb]⟩⟩
  obtain ⟨ρ', e2, h2⟩ := h hb
  rw [e2]
  exact h2
/-- a comprehension without a test, by its items -/
theorem lc_all {τ : TF} {e : EF} {ρ : Env} (x : Nat → D) : ∀ (rs : List Rv) (j : Nat), (∀ i r, rs[i]? = some r → ∃ ρ' a, τ r ρ = .ok ρ' ∧ e ρ' = .ok a ∧ a.keep = .ok (x (j + i))) → lcLoop τ yesT e ρ rs = .ok ((List.range rs.length).map fun i => x (j + i))
  | [], j, _ => rfl
  | r :: rs, j, h => by
    obtain ⟨ρ', a, e1, e2, e3⟩ := h 0 r rfl
    have ih := lc_all x rs (j + 1) fun i r' er => by
      have := h (i + 1) r' (by simpa using er)
      rw [show j + (i + 1) = j + 1 + i by omega] at this
      exact this
    unfold lcLoop
    rw [e1]
    simp only [yesT, noX_okk, bind_ok, if_true, e2, e3, ih]
    rw [List.length_cons, List.range_succ_eq_map, List.map_cons, List.map_map]
    congr 2
    apply List.map_congr_left
    intro i _
    show x (j + 1 + i) = x (j + (i + 1))
    congr 1
    omega
theorem lcF_all {it : IF} {τ : TF} {vs : List Nat} {e : EF} {ρ : Env} {rs : List Rv} (x : Nat → D) (hi : it ρ = .ok rs) (hl : rs.length ≤ 100000) (h : ∀ i r, rs[i]? = some r → ∃ ρ' a, τ r (wipeE ρ vs) = .ok ρ' ∧ e ρ' = .ok a ∧ a.keep = .ok (x i)) :
    lcF it τ vs yesT e ρ = .ok (.o ((List.range rs.length).map x)) := by
  unfold lcF
  rw [hi]
  simp only [bind_ok]
  rw [if_pos hl, lc_all x rs 0 (by simpa using h)]
  simp only [bind_ok, Nat.zero_add]
end
end Sq

/-! Rows, sheets, and when two data are equal: plain Lean. -/
namespace Sq
open PySem L2
def nD (r : List Nat) : List D := r.map fun n : Nat => .int (n : Int)
def zD (r : List Int) : List D := r.map .int
@[simp] theorem nD_len (r : List Nat) : (nD r).length = r.length := by simp [nD]
@[simp] theorem zD_len (r : List Int) : (zD r).length = r.length := by simp [zD]
@[simp] theorem nD_get (r : List Nat) (i : Nat) : (nD r)[i]? = (r[i]?).map fun n : Nat => .int (n : Int) := by simp [nD]
theorem nD_app (r s : List Nat) : nD (r ++ s) = nD r ++ nD s := by simp [nD]
theorem nD_inj {r s : List Nat} (h : nD r = nD s) : r = s := by
  unfold nD at h
  exact List.map_inj_right (fun a b e => by injection e with e; omega) |>.mp h
/-! tidy data -/
def td : Nat → D → Bool
  | _, .int _ => true
  | _, .none => true
  | k + 1, .tuple xs => xs.all (td k)
  | k + 1, .list xs => xs.all (td k)
  | _, _ => false
theorem td_lay : ∀ (k : Nat) (d : D), td k d = true → d.canLay0 = true ∧ d.depth ≤ k := by
  have all : ∀ (k : Nat), (∀ d : D, td k d = true → d.canLay0 = true ∧ d.depth ≤ k) → ∀ xs : List D, xs.all (td k) = true → PyData.canLayAll0 xs = true ∧ PyData.depthAll xs ≤ k := by
    intro k ih xs
    induction xs with
    | nil => intro _; simp [PyData.canLayAll0, PyData.depthAll]
    | cons x xs ihx =>
      intro h
      rw [List.all_cons, Bool.and_eq_true] at h
      have h1 := ih x h.1
      have h2 := ihx h.2
      rw [PyData.canLayAll0, PyData.depthAll, h1.1, h2.1]
      exact ⟨rfl, by have := h1.2; have := h2.2; omega⟩
  intro k
  induction k with
  | zero => intro d h; cases d <;> simp [td, PyData.canLay0, PyData.depth] at h ⊢
  | succ k ih =>
    intro d h
    cases d with
    | int i => simp [PyData.canLay0, PyData.depth]
    | none => simp [PyData.canLay0, PyData.depth]
    | tuple xs =>
      have := all k ih xs h
      rw [PyData.canLay0, PyData.depth]
      exact ⟨this.1, by omega⟩
    | list xs =>
      have := all k ih xs h
      rw [PyData.canLay0, PyData.depth]
      exact ⟨this.1, by omega⟩
    | _ => simp [td] at h
theorem td_shaped {k : Nat} {d : D} (h : td k d = true) (hk : k ≤ 64 := by decide) : SeqAt.shaped d = true := by
  have := td_lay k d h
  unfold SeqAt.shaped
  rw [this.1]
  simp
  omega
theorem td_eqv : ∀ (k : Nat) (d e : D), td k d = true → td k e = true → PyData.eqv d e = true → d = e := by
  have all : ∀ (k : Nat), (∀ d e : D, td k d = true → td k e = true → PyData.eqv d e = true → d = e) → ∀ xs ys : List D, xs.all (td k) = true → ys.all (td k) = true → PyData.eqvAll xs ys = true → xs = ys := by
    intro k ih xs
    induction xs with
    | nil => intro ys _ _ h; cases ys with | nil => rfl | cons y ys => simp [PyData.eqvAll] at h
    | cons x xs ihx =>
      intro ys h1 h2 h
      cases ys with
      | nil => simp [PyData.eqvAll] at h
      | cons y ys =>
        rw [List.all_cons, Bool.and_eq_true] at h1 h2
        rw [PyData.eqvAll, Bool.and_eq_true] at h
        rw [ih x y h1.1 h2.1 h.1, ihx ys h1.2 h2.2 h.2]
  intro k
  induction k with
  | zero =>
    intro d e h1 h2 h
    cases d with
    | int i => cases e with
      | int j => rw [PyData.eqv] at h; rw [eq_of_beq h]
      | none => simp [PyData.eqv] at h
      | _ => exact absurd h2 Bool.false_ne_true
    | none => cases e with
      | int j => simp [PyData.eqv] at h
      | none => rfl
      | _ => exact absurd h2 Bool.false_ne_true
    | _ => exact absurd h1 Bool.false_ne_true
  | succ k ih =>
    intro d e h1 h2 h
    cases d with
    | int i => cases e with
      | int j => rw [PyData.eqv] at h; rw [eq_of_beq h]
      | none => simp [PyData.eqv] at h
      | tuple ys => simp [PyData.eqv] at h
      | list ys => simp [PyData.eqv] at h
      | _ => exact absurd h2 Bool.false_ne_true
    | none => cases e with
      | int j => simp [PyData.eqv] at h
      | none => rfl
      | tuple ys => simp [PyData.eqv] at h
      | list ys => simp [PyData.eqv] at h
      | _ => exact absurd h2 Bool.false_ne_true
    | tuple xs => cases e with
      | int j => simp [PyData.eqv] at h
      | none => simp [PyData.eqv] at h
      | tuple ys => rw [PyData.eqv] at h; rw [all k ih xs ys h1 h2 h]
      | list ys => simp [PyData.eqv] at h
      | _ => exact absurd h2 Bool.false_ne_true
    | list xs => cases e with
      | int j => simp [PyData.eqv] at h
      | none => simp [PyData.eqv] at h
      | tuple ys => simp [PyData.eqv] at h
      | list ys => rw [PyData.eqv] at h; rw [all k ih xs ys h1 h2 h]
      | _ => exact absurd h2 Bool.false_ne_true
    | _ => exact absurd h1 Bool.false_ne_true
theorem td_eq {k : Nat} {d e : D} (h1 : td k d = true) (h2 : td k e = true) : PyData.eqv d e = true ↔ d = e :=
  ⟨td_eqv k d e h1 h2, fun h => h ▸ SeqAt.eqv_refl d (td_lay k d h1).1⟩
theorem td_mono : ∀ (k : Nat) (d : D), td k d = true → td (k + 1) d = true := by
  intro k
  induction k with
  | zero => intro d h; cases d <;> simp_all [td]
  | succ k ih =>
    intro d h
    cases d with
    | tuple xs => exact List.all_eq_true.mpr fun x hx => ih x (List.all_eq_true.mp h x hx)
    | list xs => exact List.all_eq_true.mpr fun x hx => ih x (List.all_eq_true.mp h x hx)
    | int i => rfl
    | none => rfl
    | _ => simp [td] at h
@[simp] theorem td_int (k : Nat) (i : Int) : td k (.int i) = true := by cases k <;> rfl
@[simp] theorem td_none (k : Nat) : td k .none = true := by cases k <;> rfl
@[simp] theorem td_tup (k : Nat) (xs : List D) : td (k + 1) (.tuple xs) = xs.all (td k) := rfl
@[simp] theorem td_lst (k : Nat) (xs : List D) : td (k + 1) (.list xs) = xs.all (td k) := rfl
@[simp] theorem td_nD (k : Nat) (r : List Nat) : (nD r).all (td k) = true := by simp [nD]
@[simp] theorem td_zD (k : Nat) (r : List Int) : (zD r).all (td k) = true := by simp [zD]
theorem eq_td {x y : D} (k : Nat) (h1 : td k x = true) (h2 : td k y = true) (hk : k ≤ 64 := by decide) : deq false x y = .ok (.bool (PyData.eqv x y)) := by
  unfold deq
  rw [if_pos ⟨td_shaped h1 hk, td_shaped h2 hk⟩]
  rfl
theorem ne_td {x y : D} (k : Nat) (h1 : td k x = true) (h2 : td k y = true) (hk : k ≤ 64 := by decide) : deq true x y = .ok (.bool (!PyData.eqv x y)) := by
  unfold deq
  rw [if_pos ⟨td_shaped h1 hk, td_shaped h2 hk⟩]
  rfl
theorem eq_same {x : D} (k : Nat) (h1 : td k x = true) (hk : k ≤ 64 := by decide) : deq false x x = .ok (.bool true) := by
  rw [eq_td k h1 h1 hk, (td_eq h1 h1).mpr rfl]
theorem ne_same {x : D} (k : Nat) (h1 : td k x = true) (hk : k ≤ 64 := by decide) : deq true x x = .ok (.bool false) := by
  rw [ne_td k h1 h1 hk, (td_eq h1 h1).mpr rfl]
  rfl
theorem eq_dec {x y : D} (k : Nat) {p : Prop} [Decidable p] (h1 : td k x = true) (h2 : td k y = true) (hp : x = y ↔ p) (hk : k ≤ 64 := by decide) : deq false x y = .ok (.bool (decide p)) := by
  rw [eq_td k h1 h2 hk]
  congr 2
  exact Bool.eq_iff_iff.mpr (by rw [td_eq h1 h2, hp, decide_eq_true_eq])
theorem ne_dec {x y : D} (k : Nat) {p : Prop} [Decidable p] (h1 : td k x = true) (h2 : td k y = true) (hp : x = y ↔ p) (hk : k ≤ 64 := by decide) : deq true x y = .ok (.bool (decide ¬p)) := by
  rw [ne_td k h1 h2 hk]
  congr 2
  exact Bool.eq_iff_iff.mpr (by rw [Bool.not_eq_true', Bool.eq_false_iff, Ne, td_eq h1 h2, hp, decide_eq_true_eq])
@[simp] theorem eq_ii (i j : Int) : deq false (.int i) (.int j) = .ok (.bool (decide (i = j))) :=
  eq_dec 0 rfl rfl ⟨fun h => by injection h, fun h => by rw [h]⟩
@[simp] theorem ne_ii (i j : Int) : deq true (.int i) (.int j) = .ok (.bool (decide ¬(i = j))) :=
  ne_dec 0 rfl rfl ⟨fun h => by injection h, fun h => by rw [h]⟩
@[simp] theorem nat_eq (a b : Nat) : ((a : Int) = (b : Int)) ↔ a = b := by omega
@[simp] theorem eq_bb (a b : Bool) : deq false (.bool a) (.bool b) = .ok (.bool (a == b)) := by
  unfold deq
  rw [if_pos ⟨rfl, rfl⟩, PyData.eqv]
  rfl
@[simp] theorem ne_bb (a b : Bool) : deq true (.bool a) (.bool b) = .ok (.bool (!(a == b))) := by
  unfold deq
  rw [if_pos ⟨rfl, rfl⟩, PyData.eqv]
  rfl
/-! orders -/
def ap (a : List Nat) (x : Nat) : Nat := a.getD x 0
structure Pm (a : List Nat) (m : Nat) : Prop where
  len : a.length = m
  nd : a.Nodup
  lt : ∀ x ∈ a, x < m
theorem Pm.mem {a : List Nat} {m x : Nat} (h : Pm a m) (hx : x < m) : x ∈ a := by
  refine Classical.byContradiction fun hn => ?_
  have hs : (x :: a) ⊆ List.range m := fun y hy => by
    rw [List.mem_range]
    rcases List.mem_cons.mp hy with e | e
    · omega
    · exact h.lt y e
  have := List.Nodup.length_le_of_subset (List.nodup_cons.mpr ⟨hn, h.nd⟩) hs
  rw [List.length_cons, List.length_range, h.len] at this
  omega
theorem Pm.perm {a : List Nat} {m : Nat} (h : Pm a m) : a.Perm (List.range m) :=
  (List.perm_ext_iff_of_nodup h.nd List.nodup_range).mpr fun x => by
    rw [List.mem_range]
    exact ⟨h.lt x, h.mem⟩
theorem Pm.of_perm {a : List Nat} {m : Nat} (h : a.Perm (List.range m)) : Pm a m :=
  ⟨by rw [h.length_eq, List.length_range], h.nodup_iff.mpr List.nodup_range, fun x hx => List.mem_range.mp (h.mem_iff.mp hx)⟩
theorem ap_get {a : List Nat} {x : Nat} (h : x < a.length) : a[x]? = some (ap a x) := by
  unfold ap
  rw [List.getD_eq_getElem?_getD, List.getElem?_eq_getElem h]
  rfl
theorem ap_mem {a : List Nat} {x : Nat} (h : x < a.length) : ap a x ∈ a := List.mem_of_getElem? (ap_get h)
theorem ap_of {a : List Nat} {x y : Nat} (h : a[x]? = some y) : ap a x = y := by
  unfold ap
  rw [List.getD_eq_getElem?_getD, h]
  rfl
theorem Pm.get {a : List Nat} {m x : Nat} (h : Pm a m) (hx : x < m) : a[x]? = some (ap a x) := ap_get (by rw [h.len]; exact hx)
theorem Pm.ap_lt {a : List Nat} {m x : Nat} (h : Pm a m) (hx : x < m) : ap a x < m := h.lt _ (ap_mem (by rw [h.len]; exact hx))
theorem nodup_get {a : List Nat} (h : a.Nodup) {i j : Nat} {y : Nat} (hi : a[i]? = some y) (hj : a[j]? = some y) : i = j := by
  have ⟨hi1, e1⟩ := List.getElem?_eq_some_iff.mp hi
  have ⟨hj1, e2⟩ := List.getElem?_eq_some_iff.mp hj
  have := List.pairwise_iff_getElem.mp h
  rcases Nat.lt_trichotomy i j with c | c | c
  · exact absurd (e1.trans e2.symm) (this i j hi1 hj1 c)
  · exact c
  · exact absurd (e2.trans e1.symm) (this j i hj1 hi1 c)
theorem Pm.ap_inj {a : List Nat} {m x y : Nat} (h : Pm a m) (hx : x < m) (hy : y < m) (e : ap a x = ap a y) : x = y :=
  nodup_get h.nd (h.get hx) (by rw [e]; exact h.get hy)
theorem Pm.ap_surj {a : List Nat} {m y : Nat} (h : Pm a m) (hy : y < m) : ∃ x, x < m ∧ ap a x = y := by
  have ⟨x, hx, e⟩ := List.getElem_of_mem (h.mem hy)
  exact ⟨x, by rw [← h.len]; exact hx, ap_of (by rw [List.getElem?_eq_getElem hx, e])⟩
theorem ap_set_self {w : List Nat} {i y : Nat} (h : i < w.length) : ap (w.set i y) i = y := ap_of (by rw [List.getElem?_set_self h])
theorem ap_set_ne {w : List Nat} {i j y : Nat} (h : i ≠ j) : ap (w.set i y) j = ap w j := by
  unfold ap
  rw [List.getD_eq_getElem?_getD, List.getD_eq_getElem?_getD, List.getElem?_set_ne h]
/-- a row from a rule -/
def rowOf (m : Nat) (f : Nat → Nat) : List Nat := (List.range m).map f
@[simp] theorem rowOf_len (m : Nat) (f : Nat → Nat) : (rowOf m f).length = m := by simp [rowOf]
theorem ap_rowOf {m x : Nat} {f : Nat → Nat} (h : x < m) : ap (rowOf m f) x = f x := ap_of (by simp [rowOf, h])
theorem pm_rowOf {m : Nat} {f : Nat → Nat} (h1 : ∀ x, x < m → f x < m) (h2 : ∀ x y, x < m → y < m → f x = f y → x = y) : Pm (rowOf m f) m := by
  refine ⟨by simp, ?_, fun x hx => ?_⟩
  · unfold rowOf
    rw [List.nodup_iff_pairwise_ne, List.pairwise_map]
    refine List.Pairwise.imp_of_mem (fun {x y} hx hy hne e => hne (h2 x y (List.mem_range.mp hx) (List.mem_range.mp hy) e)) List.nodup_range
  · obtain ⟨y, hy, e⟩ := List.mem_map.mp hx
    exact e ▸ h1 y (List.mem_range.mp hy)
theorem row_ext {a b : List Nat} {m : Nat} (ha : a.length = m) (hb : b.length = m) (h : ∀ x, x < m → ap a x = ap b x) : a = b := by
  refine List.ext_getElem? fun x => ?_
  by_cases hx : x < m
  · rw [ap_get (by omega), ap_get (by omega), h x hx]
  · rw [List.getElem?_eq_none (by omega), List.getElem?_eq_none (by omega)]
/-- where a row holds a number -/
def inv (a : List Nat) (y : Nat) : Nat := a.idxOf y
theorem inv_get {a : List Nat} {y : Nat} (h : y ∈ a) : a[inv a y]? = some y := by
  have := List.idxOf_lt_length_iff.mpr h
  show a[a.idxOf y]? = _
  rw [List.getElem?_eq_getElem this, List.getElem_idxOf this]
theorem Pm.inv_lt {a : List Nat} {m y : Nat} (h : Pm a m) (hy : y < m) : inv a y < m := by
  have := List.idxOf_lt_length_iff.mpr (h.mem hy)
  rw [h.len] at this
  exact this
theorem Pm.ap_inv {a : List Nat} {m y : Nat} (h : Pm a m) (hy : y < m) : ap a (inv a y) = y := ap_of (inv_get (h.mem hy))
theorem Pm.inv_ap {a : List Nat} {m x : Nat} (h : Pm a m) (hx : x < m) : inv a (ap a x) = x :=
  h.ap_inj (h.inv_lt (h.ap_lt hx)) hx (h.ap_inv (h.ap_lt hx))
/-! sorting -/
def nsrt (r : List Nat) : List Nat := r.mergeSort fun a b => decide (a ≤ b)
theorem srt_nat (r : List Nat) : srt (r.map fun n : Nat => (n : Int)) = (nsrt r).map fun n : Nat => (n : Int) := by
  unfold srt nsrt
  exact (List.map_mergeSort fun a _ b _ => by simp).symm
theorem nsrt_perm (r : List Nat) : (nsrt r).Perm r := List.mergeSort_perm _ _
theorem nsrt_le (r : List Nat) : (nsrt r).Pairwise (· ≤ ·) := by
  have := List.pairwise_mergeSort (le := fun a b : Nat => decide (a ≤ b)) (fun a b c h1 h2 => by simp at *; omega) (fun a b => by simp; omega) r
  exact this.imp fun h => by simpa using h
theorem nsrt_pm {a : List Nat} {m : Nat} (h : Pm a m) : nsrt a = List.range m :=
  List.Perm.eq_of_pairwise (le := (· ≤ ·)) (fun a b _ _ h1 h2 => Nat.le_antisymm h1 h2) (nsrt_le a) (List.Pairwise.imp (fun h => Nat.le_of_lt h) List.pairwise_lt_range) ((nsrt_perm a).trans h.perm)
theorem dInts_nD : ∀ r : List Nat, dInts (nD r) = some (r.map fun n : Nat => (n : Int))
  | [] => rfl
  | n :: r => by
    show dInts (.int n :: nD r) = _
    unfold dInts
    rw [dInts_nD r]
    rfl
theorem nD_map (r : List Nat) : nD r = (r.map fun n : Nat => (n : Int)).map .int := by simp [nD]
theorem sort_nD {a : Rv} {r : List Nat} (h : a.intsD = some (r.map fun n : Nat => (n : Int))) : sortR a = .ok (.o (nD (nsrt r))) := by
  unfold sortR
  rw [h]
  show Er.ok (Rv.o ((srt _).map .int)) = _
  rw [srt_nat, ← nD_map]
@[simp] theorem ints_vl (r : List Nat) : (Rv.v (.list (nD r))).intsD = some (r.map fun n : Nat => (n : Int)) := dInts_nD r
@[simp] theorem ints_o (r : List Nat) : (Rv.o (nD r)).intsD = some (r.map fun n : Nat => (n : Int)) := dInts_nD r
@[simp] theorem sort_vl (r : List Nat) : sortR (.v (.list (nD r))) = .ok (.o (nD (nsrt r))) := sort_nD (ints_vl r)
@[simp] theorem sort_o (r : List Nat) : sortR (.o (nD r)) = .ok (.o (nD (nsrt r))) := sort_nD (ints_o r)
@[simp] theorem sort_w (r : List Nat) : sortR (.w (nD r)) = .ok (.o (nD (nsrt r))) := sort_nD (dInts_nD r)
/-! places -/
theorem eqv_nat (i j : Nat) : PyData.eqv (.int i) (.int j) = decide (i = j) := by
  rw [PyData.eqv]
  exact Bool.eq_iff_iff.mpr (by simp only [beq_iff_eq, decide_eq_true_eq]; omega)
theorem first_nD (y : Nat) : ∀ (r : List Nat) (k : Nat), y ∈ r → firstAt (.int y) (nD r) k = some (k + inv r y)
  | [], _, h => by cases h
  | x :: r, k, h => by
    show firstAt (.int y) (.int x :: nD r) k = _
    unfold firstAt
    rw [eqv_nat]
    by_cases e : x = y
    · rw [if_pos (by simpa using e)]
      unfold inv
      rw [List.idxOf_cons, e]
      simp
    · rw [if_neg (by simpa using e), first_nD y r (k + 1) ((List.mem_cons.mp h).resolve_left (Ne.symm e))]
      unfold inv
      rw [List.idxOf_cons, show (x == y) = false from beq_false_of_ne e]
      simp
      omega

theorem flat_nD (r : List Nat) : (nD r).all flatD = true := by simp [nD, flatD]
theorem any_nD (y : Nat) (r : List Nat) : ((nD r).any fun z => PyData.eqv z (.int y)) = decide (y ∈ r) := by
  induction r with
  | nil => simp [nD]
  | cons x r ih =>
    show (PyData.eqv (.int x) (.int y) || (nD r).any fun z => PyData.eqv z (.int y)) = _
    rw [ih, eqv_nat, ← Bool.decide_or]
    refine decide_eq_decide.mpr ?_
    rw [List.mem_cons]
    exact or_congr_left eq_comm
theorem inSeq_nD (n : Bool) (y : Nat) (r : List Nat) {a b : Rv} (ha : a.dat = some (.int y)) (hb : b.seq = some (nD r)) : inSeq n a b = .ok (.v (.bool (if n then !decide (y ∈ r) else decide (y ∈ r)))) := by
  unfold inSeq
  rw [ha, hb]
  simp only [any_nD, flat_nD, flatD, and_self, if_true]
@[simp] theorem in_w (n : Bool) (y : Nat) (r : List Nat) : inR n (.v (.int y)) (.w (nD r)) = .ok (.v (.bool (if n then !decide (y ∈ r) else decide (y ∈ r)))) :=
  (alt_r rfl).trans (alt_l (inSeq_nD n y r rfl rfl))
@[simp] theorem in_vt (n : Bool) (y : Nat) (r : List Nat) : inR n (.v (.int y)) (.v (.tuple (nD r))) = .ok (.v (.bool (if n then !decide (y ∈ r) else decide (y ∈ r)))) :=
  (alt_r rfl).trans (alt_l (inSeq_nD n y r rfl rfl))
@[simp] theorem in_vl (n : Bool) (y : Nat) (r : List Nat) : inR n (.v (.int y)) (.v (.list (nD r))) = .ok (.v (.bool (if n then !decide (y ∈ r) else decide (y ∈ r)))) :=
  (alt_r rfl).trans (alt_l (inSeq_nD n y r rfl rfl))
theorem indexR_nD {y : Nat} {r : List Nat} (h : y ∈ r) : indexR (nD r) (.v (.int y)) = .ok (.v (.int (inv r y : Nat))) := by
  unfold indexR
  simp only [dat_v, flat_nD, flatD, and_self, if_true, first_nD y r 0 h, Nat.zero_add]
theorem indexF_e {f g : EF} {ρ : Env} {a : Rv} {ys : List D} (h : f ρ = .ok a) (hd : a.dat = some (.list ys)) : indexF f g ρ = (g ρ).bind fun b => indexR ys b := by
  unfold indexF
  rw [h]
  simp only [bind_ok, hd]
theorem ix_row {a : List Nat} {x : Nat} (h : x < a.length) : ixR (.v (.list (nD a))) (.v (.int x)) = .ok (.v (.int (ap a x : Nat))) := ixR_vl (at_nat.trans (by simp [ap_get h]))
theorem ix_rowT {a : List Nat} {x : Nat} (h : x < a.length) : ixR (.v (.tuple (nD a))) (.v (.int x)) = .ok (.v (.int (ap a x : Nat))) := ixR_vt (at_nat.trans (by simp [ap_get h]))
theorem ixR_o {xs : List D} {i : Int} {d : D} (h : atI xs i = some d) : ixR (.o xs) (.v (.int i)) = .ok (.v d) := by
  refine (alt_r rfl).trans (alt_l (ixSeq_e ?_))
  show (atI xs i).map Rv.v = _
  rw [h]
  rfl
theorem ix_rowO {a : List Nat} {x : Nat} (h : x < a.length) : ixR (.o (nD a)) (.v (.int x)) = .ok (.v (.int (ap a x : Nat))) := ixR_o (at_nat.trans (by simp [ap_get h]))
theorem ix_rowW {a : List Nat} {x : Nat} (h : x < a.length) : ixR (.w (nD a)) (.v (.int x)) = .ok (.v (.int (ap a x : Nat))) := ixR_w (at_nat.trans (by simp [ap_get h]))
theorem isi_tt (xs : List D) : isiR "tuple" (.v (.tuple xs)) = .ok (.v (.bool true)) := (rfl)
theorem isi_ii (i : Int) : isiR "int" (.v (.int i)) = .ok (.v (.bool true)) := (rfl)
theorem isi_bi (i : Int) : isiR "bool" (.v (.int i)) = .ok (.v (.bool false)) := (rfl)
theorem isi_bb (b : Bool) : isiR "bool" (.v (.bool b)) = .ok (.v (.bool true)) := (rfl)
theorem dBools_all (b : Bool) : ∀ n : Nat, dBools (List.replicate n (.bool b)) = some (List.replicate n b)
  | 0 => rfl
  | n + 1 => by
    show dBools (.bool b :: List.replicate n (.bool b)) = _
    unfold dBools
    rw [dBools_all b n]
    rfl
theorem all_true (n : Nat) : allA (.o (List.replicate n (.bool true))) = .ok (.v (.bool true)) := by
  unfold allA Rv.bools
  simp [dBools_all]
/-- a comprehension without a test, over what a list gives -/
theorem lcL_map {α : Type} {τ : TF} {e : EF} {ρ : Env} (g : α → Rv) (h : α → D) : ∀ (xs : List α), (∀ x ∈ xs, ∃ ρ' a, τ (g x) ρ = .ok ρ' ∧ e ρ' = .ok a ∧ a.keep = .ok (h x)) → lcLoop τ yesT e ρ (xs.map g) = .ok (xs.map h)
  | [], _ => rfl
  | x :: xs, hs => by
    obtain ⟨ρ', a, e1, e2, e3⟩ := hs x (List.mem_cons_self ..)
    have ih := lcL_map g h xs fun y hy => hs y (List.mem_cons_of_mem _ hy)
    show lcLoop τ yesT e ρ (g x :: xs.map g) = _
    unfold lcLoop
    rw [e1]
    simp only [yesT, noX_okk, bind_ok, if_true, e2, e3, ih]
    rfl
theorem lcF_map {α : Type} {it : IF} {τ : TF} {vs : List Nat} {e : EF} {ρ : Env} (xs : List α) (g : α → Rv) (h : α → D) (hi : it ρ = .ok (xs.map g)) (hl : xs.length ≤ 100000) (hs : ∀ x ∈ xs, ∃ ρ' a, τ (g x) (wipeE ρ vs) = .ok ρ' ∧ e ρ' = .ok a ∧ a.keep = .ok (h x)) :
    lcF it τ vs yesT e ρ = .ok (.o (xs.map h)) := by
  unfold lcF
  rw [hi]
  simp only [bind_ok]
  rw [if_pos (by simpa using hl), lcL_map g h xs hs]
  rfl
theorem forL_cons {τ : TF} {s : SF} {r : Rv} {rs : List Rv} {ρ ρ1 : Env} (h : τ r ρ = .ok ρ1) : forL τ s (r :: rs) ρ = (match s ρ1 with | .next ρ' => forL τ s rs ρ' | .cont ρ' => forL τ s rs ρ' | .brk ρ' => .next ρ' | x => x) := by
  rw [forL, h] <;> rfl
theorem forL_next {τ : TF} {s : SF} {r : Rv} {rs : List Rv} {ρ ρ1 ρ2 : Env} (h : τ r ρ = .ok ρ1) (h2 : s ρ1 = .next ρ2) : forL τ s (r :: rs) ρ = forL τ s rs ρ2 := by
  rw [forL_cons h, h2]
@[simp] theorem forL_nil {τ : TF} {s : SF} {ρ : Env} : forL τ s [] ρ = .next ρ := (rfl)
/-- what a walk from 0 along two rows meets -/
inductive Re (a b : List Nat) : Nat → Prop
  | z : Re a b 0
  | fa {x : Nat} : Re a b x → Re a b (ap a x)
  | fb {x : Nat} : Re a b x → Re a b (ap b x)
/-- two rows that hold together -/
structure Sh (p q : List Nat) (n : Nat) : Prop where
  hp : Pm p n
  hq : Pm q n
  pos : 0 < n
  re : ∀ x, x < n → Re p q x
def sheet (p q : List Nat) : D := .tuple [.tuple (nD p), .tuple (nD q)]
@[simp] theorem td_sheet (k : Nat) (p q : List Nat) : td (k + 2) (sheet p q) = true := by
  show List.all _ _ = true
  simp
theorem sheet_inj {p q p' q' : List Nat} : sheet p q = sheet p' q' ↔ p = p' ∧ q = q' := by
  constructor
  · intro h
    injection h with h
    injection h with h1 h2
    injection h1 with h1
    injection h2 with h2
    injection h2 with h2
    exact ⟨nD_inj h1, nD_inj h2⟩
  · intro ⟨h1, h2⟩
    rw [h1, h2]
theorem sheet_e (p q : List Nat) : PyData.tuple [.tuple (nD p), .tuple (nD q)] = sheet p q := (rfl)
theorem ix_sh0 (p q : List Nat) : ixR (.v (sheet p q)) (.v (.int 0)) = .ok (.v (.tuple (nD p))) := ixR_vt rfl
theorem ix_sh1 (p q : List Nat) : ixR (.v (sheet p q)) (.v (.int 1)) = .ok (.v (.tuple (nD q))) := ixR_vt rfl
/-- the orbit as a sheet of its own -/
theorem orbit_sh {a b kept : List Nat} {m : Nat} (ha : Pm a m) (hb : Pm b m) (hn : kept.Nodup) (hlt : ∀ x ∈ kept, x < m) (h0 : 0 ∈ kept) (hs : kept.Pairwise (· ≤ ·)) (hc : ∀ x ∈ kept, ap a x ∈ kept ∧ ap b x ∈ kept) (hr : ∀ x ∈ kept, Re a b x) :
    Sh (kept.map fun x => inv kept (ap a x)) (kept.map fun x => inv kept (ap b x)) kept.length := by
  have key : ∀ c : List Nat, Pm c m → (∀ x ∈ kept, ap c x ∈ kept) → Pm (kept.map fun x => inv kept (ap c x)) kept.length := by
    intro c hcm hcc
    refine ⟨by simp, ?_, fun y hy => ?_⟩
    · rw [List.nodup_iff_pairwise_ne, List.pairwise_map]
      refine List.Pairwise.imp_of_mem (fun {x y} hx hy hne e => hne ?_) hn
      have h1 := inv_get (hcc x hx)
      have h2 := inv_get (hcc y hy)
      rw [e, h2] at h1
      exact hcm.ap_inj (hlt x hx) (hlt y hy) (Option.some.inj h1).symm
    · obtain ⟨x, hx, e⟩ := List.mem_map.mp hy
      exact e ▸ List.idxOf_lt_length_iff.mpr (hcc x hx)
  have hz : inv kept 0 = 0 := by
    cases kept with
    | nil => cases h0
    | cons x r =>
      have hx : x = 0 := by
        rcases List.mem_cons.mp h0 with e | e
        · exact e.symm
        · have := (List.pairwise_cons.mp hs).1 0 e
          omega
      unfold inv
      rw [List.idxOf_cons, hx]
      simp
  have hap : ∀ c : List Nat, ∀ x ∈ kept, ap (kept.map fun x => inv kept (ap c x)) (inv kept x) = inv kept (ap c x) := by
    intro c x hx
    refine ap_of ?_
    rw [List.getElem?_map, inv_get hx]
    rfl
  have hre : ∀ x, Re a b x → x ∈ kept ∧ Re (kept.map fun x => inv kept (ap a x)) (kept.map fun x => inv kept (ap b x)) (inv kept x) := by
    intro x h
    induction h with
    | z => exact ⟨h0, by rw [hz]; exact .z⟩
    | fa _ ih => exact ⟨(hc _ ih.1).1, by rw [← hap a _ ih.1]; exact .fa ih.2⟩
    | fb _ ih => exact ⟨(hc _ ih.1).2, by rw [← hap b _ ih.1]; exact .fb ih.2⟩
  refine ⟨key a ha fun x hx => (hc x hx).1, key b hb fun x hx => (hc x hx).2, List.length_pos_of_mem h0, fun i hi => ?_⟩
  have hm : kept[i] ∈ kept := List.getElem_mem hi
  have := (hre _ (hr _ hm)).2
  have e : inv kept kept[i] = i := nodup_get hn (inv_get hm) (List.getElem?_eq_getElem hi)
  rw [e] at this
  exact this

/-! ranges, shorter -/
def rgV (n : Nat) : List Rv := (List.range n).map fun (i : Nat) => Rv.v (.int (i : Int))
theorem rg1_nat {f : EF} {ρ : Env} {n : Nat} (h : f ρ = .ok (.v (.int n))) (hn : n ≤ 1000000) : rg1F f ρ = .ok (rgV n) := by
  rw [rg1_e h rfl (by omega), rgR_nat]
  rfl
theorem lc_rg {f e : EF} {ρ : Env} {n : Nat} (k : Nat) (g : Nat → Nat) (h : f ρ = .ok (.v (.int n))) (hn : n ≤ 100000) (he : ∀ x, x < n → ∃ a, e ((ρ.set k .u).set k (.v (.int x))) = .ok a ∧ a.keep = .ok (.int (g x : Nat))) : lcF (rg1F f) (asgn k) [k] yesT e ρ = .ok (.o (nD (rowOf n g))) := by
  rw [lcF_map (List.range n) (fun (i : Nat) => Rv.v (.int (i : Int))) (fun i : Nat => .int (g i : Nat)) (rg1_nat h (by omega)) (by simpa using hn) fun x hx => ?_]
  · simp [nD, rowOf]
  · obtain ⟨a, e1, e2⟩ := he x (List.mem_range.mp hx)
    exact ⟨_, a, rfl, e1, e2⟩
theorem for_rg {f : EF} {s : SF} {ρ : Env} {n : Nat} (k : Nat) (P : Nat → Env → Prop) (h : f ρ = .ok (.v (.int n))) (hn : n ≤ 1000000) (h0 : P 0 ρ) (hs : ∀ i ρ, i < n → P i ρ → ∃ ρ', s (ρ.set k (.v (.int i))) = .next ρ' ∧ P (i + 1) ρ') : ∃ ρ', forS (rg1F f) (asgn k) s ρ = .next ρ' ∧ P n ρ' := by
  obtain ⟨ρ', e, p⟩ := forL_go (τ := asgn k) (s := s) (rs := rgV n) (ρ := ρ) P h0 fun i r ρ hr hp => by
    obtain ⟨hi, er⟩ := List.getElem?_eq_some_iff.mp hr
    simp [rgV] at er hi
    subst er
    obtain ⟨ρ', e1, e2⟩ := hs i ρ hi hp
    exact ⟨_, _, rfl, e1, e2⟩
  refine ⟨ρ', ?_, by simpa [rgV] using p⟩
  simp [rg1_nat h hn, e]
/-- a loop over a range that may end early -/
theorem for_rgG {f : EF} {s : SF} {ρ : Env} {n : Nat} (k : Nat) (P : Nat → Env → Prop) (G : Res → Prop) (h : f ρ = .ok (.v (.int n))) (hn : n ≤ 1000000) (h0 : P 0 ρ) (hs : ∀ i ρ, i < n → P i ρ → (match s (ρ.set k (.v (.int i))) with | .next ρ' => P (i + 1) ρ' | .cont ρ' => P (i + 1) ρ' | .brk ρ' => G (.next ρ') | x => G x)) (hd : ∀ ρ, P n ρ → G (.next ρ)) : G (forS (rg1F f) (asgn k) s ρ) := by
  show G (thenI ρ (rg1F f ρ) fun rs => forL (asgn k) s rs ρ)
  rw [rg1_nat h hn]
  show G (forL (asgn k) s (rgV n) ρ)
  refine forL_rule P G (rgV n) 0 ρ h0 (fun i r ρ hr hp => ?_) (fun ρ hp => hd ρ (by simpa [rgV] using hp))
  obtain ⟨hi, er⟩ := List.getElem?_eq_some_iff.mp hr
  simp [rgV] at er hi
  subst er
  rw [Nat.zero_add] at hp ⊢
  exact ⟨_, rfl, hs i ρ hi hp⟩
theorem seq_go {s u : SF} {ρ ρ' : Env} (h : s ρ = .next ρ') : seqS s u ρ = u ρ' := by
  simp [h]
theorem seq_ret {s u : SF} {ρ : Env} {r : Rv} (h : s ρ = .ret r) : seqS s u ρ = .ret r := by
  simp [h]
@[simp] theorem lcat_oo (xs ys : List D) (h : xs.length + ys.length ≤ 100000) : addR (.o xs) (.o ys) = .ok (.o (xs ++ ys)) := by
  refine (alt_r rfl).trans ((alt_r rfl).trans ((alt_r rfl).trans ?_))
  show (if xs.length + ys.length ≤ 100000 then Er.ok (Rv.o (xs ++ ys)) else .bad) = _
  rw [if_pos h]
theorem tcat_vv {xs ys : List D} (h0 : xs ≠ []) (h : xs.length + ys.length ≤ 100000) : addR (.v (.tuple xs)) (.v (.tuple ys)) = .ok (.v (.tuple (xs ++ ys))) := by
  refine (alt_r rfl).trans ((alt_r rfl).trans (alt_l ?_))
  show (if xs ≠ [] ∧ xs.length + ys.length ≤ 100000 then Er.ok (Rv.v (.tuple (xs ++ ys))) else .bad) = _
  rw [if_pos ⟨h0, h⟩]
theorem ix_rowB {a : List Nat} {x : Nat} (h : x < a.length) : ixR (.b (.list (nD a))) (.v (.int x)) = .ok (.b (.int (ap a x : Nat))) := ixR_bl (at_nat.trans (by simp [ap_get h]))
theorem mod_ok {c : Int} (N : Nat) (h : 0 < N) : ∃ d : Nat, d < N ∧ imod c N = .ok (.int d) := by
  have h0 : 0 ≤ c % (N : Int) := Int.emod_nonneg _ (by omega)
  have h1 : c % (N : Int) < N := Int.emod_lt_of_pos _ (by omega)
  obtain ⟨d, hd⟩ := Int.eq_ofNat_of_zero_le h0
  exact ⟨d, by omega, by rw [imod_s (by omega), hd]⟩
theorem div_nat (a b : Nat) (h : 0 < b) (h2 : b < 1073741824) : idiv (a : Int) (b : Int) = .ok (.int (a / b : Nat)) := by
  rw [idiv_s (by omega)]
  rfl
theorem mod_nat (a b : Nat) (h : 0 < b) : imod (a : Int) (b : Int) = .ok (.int (a % b : Nat)) := by
  rw [imod_s (by omega)]
  rfl
theorem mul_nat (a b : Nat) (h : a < 2 ^ 64) : imul (a : Int) (b : Int) = .ok (.int (a * b : Nat)) := by
  rw [imul_l (by omega)]
  rfl
end Sq

/-! try .. except. -/
namespace Sq
open PySem PySem.Spec PyProof.Rows L2
section
variable {X : Cx} {W : WF} {cm : Str → Addr} {K : PySem.W.Frag} {D : Ends} {h : Hs} {ρ : Env} {σ : L2.St}
def noXS : Res → Res
  | .exc _ _ _ => .bad
  | r => r
theorem Post.noX {r : Res} (q : Post K W D h (noXS r)) : Post K WN D h r := by
  cases r with
  | exc c p ρ => exact q.elim
  | _ => exact q
def tryS (f : SF) (m : Str → Option Bool) (g u : SF) : SF := fun ρ => match f ρ with
  | .next ρ' => u ρ'
  | .exc c p ρ' => match m c with
    | some true => noXS (g ρ')
    | some false => .exc c p ρ'
    | none => .bad
  | r => r
/-- which classes a clause takes -/
def mL (yes no : List Str) : Str → Option Bool := fun c => if c ∈ yes then some true else if c ∈ no then some false else none
theorem mL_yes {yes no : List Str} {c : Str} (e : mL yes no c = some true) : c ∈ yes := by
  unfold mL at e
  split at e
  · assumption
  · split at e <;> cases e
theorem fa_nil {α : Type} {P : α → Prop} : ∀ c ∈ ([] : List α), P c := fun _ h => nomatch h
theorem fa_cons {α : Type} {P : α → Prop} {x : α} {xs : List α} (h : P x) (t : ∀ c ∈ xs, P c) : ∀ c ∈ x :: xs, P c := fun c hc => by
  rcases List.mem_cons.mp hc with e | e
  · exact e ▸ h
  · exact t c e
theorem mL_exm {cm : Str → Addr} {yes no : List Str} {v : Value} (hy : ∀ c ∈ yes, PySem.W.exmOne K (.ref (cm c)) v = some true) (hn : ∀ c ∈ no, PySem.W.exmOne K (.ref (cm c)) v = some false) {c : Str} {b : Bool} (e : mL yes no c = some b) : PySem.W.exmOne K (.ref (cm c)) v = some b := by
  unfold mL at e
  split at e
  · cases e
    exact hy c (by assumption)
  · split at e
    · cases e
      exact hn c (by assumption)
    · cases e
/-- a caught exception, with or without its own data -/
theorem wfx_both {cm : Str → Addr} {Wx : WX} {c : Str} {p : Option (Str × PyData)} {σ : L2.St} {h : Hs} (q : ∀ d, Wx (.ref (cm c)) d σ h.H) : WFx K cm Wx c p σ h := by
  cases p with
  | none => exact q none
  | some p => exact fun d _ _ _ => q (some d)
theorem xtry {x : Str} {c : Value} {body suite orelse : List Stmt} {b₀ : Stmt} {np pos pos' : Pos} {f g u : SF} {yes no : List Str} (tk : Tk X cm W) (hs : X.stack = X.env :: X.outer) (hf : X.env.frame = some X.env.locals) (hc : Names X x c)
    (hy : ∀ d ∈ yes, PySem.W.exmOne X.K (.ref (cm d)) c = some true) (hn : ∀ d ∈ no, PySem.W.exmOne X.K (.ref (cm d)) c = some false)
    (hb : ∀ (Wx : WX) (pn : List (Addr × Obj)) (xe : Value → Shared → Prop), Tk (X.tr pn xe) cm (WFx X.K cm Wx) → PassesOwn (model X.prog X.w) X.A X.env xe → PSs (X.tr pn xe) body (tS X.K (WFx X.K cm Wx) f))
    (hsu : ∀ (a : Addr) (pn : List (Addr × Obj)), PSs (X.suite a pn) (b₀ :: suite) (tS X.K WN g))
    (ho : PSs X orelse (tS X.K W u)) : PS X (.Try body [.ExceptHandler (some (.Name x np)) none (b₀ :: suite) pos'] orelse [] pos) (tS X.K W (tryS f (mL yes no) g u)) := by
  obtain ⟨Wx, tk, hW⟩ := tk
  refine psTo (ps_try_onlyE (tb := fun Wx => tS X.K (WFx X.K cm Wx) f) (ts := fun _ _ _ => tS X.K WN g) ho hs hf hc tk (fun Wx pn xe tk hpo => hb Wx pn xe (tkOf tk) hpo) fun a oe cls d pn _ _ => hsu a _) fun D σ H ⟨h, ρ, e, R, q⟩ => ?_
  subst e
  refine ⟨h, ρ, rfl, R, ?_⟩
  unfold tryS at q
  cases ef : f ρ with
  | next ρ' =>
    rw [ef] at q
    exact fun σ' h' R' g' => ⟨h', ρ', rfl, R', Post.shift g' q⟩
  | ret r => rw [ef] at q; exact q
  | brk ρ' => rw [ef] at q; exact q
  | cont ρ' => rw [ef] at q; exact q
  | bad => rw [ef] at q; exact q.elim
  | exc d p ρ' =>
    rw [ef] at q
    intro σ' h' R' g'
    dsimp only at q
    cases em : mL yes no d with
    | none => rw [em] at q; exact q.elim
    | some b =>
      rw [em] at q
      have hx := mL_exm hy hn em
      cases b with
      | true => exact wfx_both fun dd => ⟨true, hx, fun _ a _ => ⟨h', ρ', rfl, R', (Post.shift g' q).noX⟩, fun z => nomatch z⟩
      | false =>
        have := hW _ _ _ _ (q σ' h' R' g')
        cases p with
        | none => exact ⟨false, hx, fun z => (nomatch z), fun _ => this⟩
        | some p => exact fun dd v e1 e2 => ⟨false, hx, fun z => (nomatch z), fun _ => this dd v e1 e2⟩
/-! with a name -/
theorem Rel.u {K : PySem.W.Frag} {h : Hs} {ρ : Env} {σ : L2.St} (R : Rel K h ρ σ) (i : Nat) (x : Option V) : Rel K h (ρ.set i .u) (σ.set i x) := by
  have at' : ∀ j t, (ρ.set i .u)[j]? = some t → (j = i ∧ t = .u) ∨ (j ≠ i ∧ ρ[j]? = some t) := fun j t e => by
    by_cases hj : i = j
    · subst hj
      rw [List.getElem?_set] at e
      simp only [if_true] at e
      split at e
      · cases e; exact .inl ⟨rfl, rfl⟩
      · cases e
    · rw [List.getElem?_set_ne hj] at e
      exact .inr ⟨Ne.symm hj, e⟩
  refine ⟨R.ch, by simp [R.len], fun j t y e1 e2 => ?_, fun j k t u l m hjk e1 e2 o1 o2 e3 e4 => ?_⟩
  · rcases at' j t e1 with ⟨rfl, rfl⟩ | ⟨hj, e⟩
    · trivial
    · rw [List.getElem?_set_ne (Ne.symm hj)] at e2
      exact R.at_ j t y e e2
  · rcases at' j t e1 with ⟨rfl, rfl⟩ | ⟨hj, e⟩
    · cases o1
    · rcases at' k u e2 with ⟨rfl, rfl⟩ | ⟨hk, e'⟩
      · cases o2
      · rw [List.getElem?_set_ne (Ne.symm hj)] at e3
        rw [List.getElem?_set_ne (Ne.symm hk)] at e4
        exact R.dis j k t u l m hjk e e' o1 o2 e3 e4
def wipeRes (i : Nat) : Res → Res
  | .next ρ' => .next (ρ'.set i .u)
  | .ret r => .ret r
  | _ => .bad
def tryAsS (f : SF) (m : Str → Option Bool) (i : Nat) (g : Str → SF) : SF := fun ρ => match f ρ with
  | .exc c none ρ' => match m c with
    | some true => if i < ρ'.length then wipeRes i (g c (ρ'.set i .u)) else .bad
    | some false => .exc c none ρ'
    | none => .bad
  | .exc c (some p) ρ' => match m c with
    | some false => .exc c (some p) ρ'
    | _ => .bad
  | r => r
/-- a suite that holds the exception a in slot i -/
def tSu (K : PySem.W.Frag) (i : Nat) (a : Addr) (f : SF) : TS := fun D σ H => σ[i]? = some (some (.ref a)) ∧ tS K WN f D σ H
theorem xtryAs {x n : Str} {i : Nat} {c : Value} {body suite : List Stmt} {b₀ : Stmt} {np pos pos' : Pos} {f : SF} {g : Str → SF} {yes no : List Str} (tk : Tk X cm W) (hs : X.stack = X.env :: X.outer) (hf : X.env.frame = some X.env.locals) (hN : X.N.Nodup) (hi : X.N[i]? = some n) (hln : X.env.kindOf n = some .local) (hc : Names X x c)
    (hy : ∀ d ∈ yes, PySem.W.exmOne X.K (.ref (cm d)) c = some true) (hn : ∀ d ∈ no, PySem.W.exmOne X.K (.ref (cm d)) c = some false)
    (hb : ∀ (Wx : WX) (pn : List (Addr × Obj)) (xe : Value → Shared → Prop), Tk (X.tr pn xe) cm (WFx X.K cm Wx) → PassesOwn (model X.prog X.w) X.A X.env xe → PSs (X.tr pn xe) body (tS X.K (WFx X.K cm Wx) f))
    (hsu : ∀ d ∈ yes, ∀ (a : Addr) (oe : Obj) (pn : List (Addr × Obj)), Zc (.ref (cm d)) none oe → (∃ vs, oe.data = .fields vs) → PSs (X.suite a ((a, oe) :: pn)) (b₀ :: suite) (tSu X.K i a (g d))) :
    PS X (.Try body [.ExceptHandler (some (.Name x np)) (some n) (b₀ :: suite) pos'] [] [] pos) (tS X.K W (tryAsS f (mL yes no) i g)) := by
  obtain ⟨Wx, tk, hW⟩ := tk
  refine psTo (ps_try_as (tb := fun Wx => tS X.K (WFx X.K cm Wx) f) (ts := fun a cls d => fun D σ H => ∃ e, e ∈ yes ∧ cls = .ref (cm e) ∧ d = none ∧ tSu X.K i a (g e) D σ H) hs hf hN hi hln hc tk (fun Wx pn xe tk hpo => hb Wx pn xe (tkOf tk) hpo) fun a oe cls d pn hz hfl => ⟨fun pins s σ H D I hw => ?_⟩) fun D σ H hq => ?_
  · obtain ⟨e, he, rfl, rfl, hw⟩ := hw
    exact (hsu e he a oe pn hz hfl).run pins s σ H D I hw
  obtain ⟨h, ρ, e, R, q⟩ := id hq
  subst e
  refine ⟨h, ρ, rfl, R, ?_⟩
  unfold tryAsS at q
  cases ef : f ρ with
  | next ρ' => rw [ef] at q; exact q
  | ret r => rw [ef] at q; exact q
  | brk ρ' => rw [ef] at q; exact q
  | cont ρ' => rw [ef] at q; exact q
  | bad => rw [ef] at q; exact q.elim
  | exc d p ρ' =>
    rw [ef] at q
    intro σ' h' R' g'
    cases p with
    | none =>
      dsimp only at q
      cases em : mL yes no d with
      | none => rw [em] at q; exact q.elim
      | some b =>
        rw [em] at q
        have hx := mL_exm hy hn em
        cases b with
        | false => exact ⟨false, hx, fun z => (nomatch z), fun _ => hW _ _ _ _ (q σ' h' R' g')⟩
        | true =>
          dsimp only at q
          split at q
          rotate_left
          · exact q.elim
          rename_i hlt
          rw [R'.len] at hlt
          refine ⟨true, hx, fun _ a _ => ⟨d, mL_yes em, rfl, rfl, ?_, h', ρ'.set i .u, rfl, R'.u i _, ?_⟩, fun z => nomatch z⟩
          · rw [List.getElem?_set_self hlt]
          · have q' := Post.shift g' q
            cases eg : g d (ρ'.set i .u) with
            | next ρ2 =>
              rw [eg] at q'
              exact fun σ2 h2 R2 g2 => q' _ h2 (R2.u i none) g2
            | ret r => rw [eg] at q'; exact q'
            | _ => rw [eg] at q'; exact q'.elim
    | some p =>
      dsimp only at q
      cases em : mL yes no d with
      | none => rw [em] at q; exact q.elim
      | some b =>
        rw [em] at q
        have hx := mL_exm hy hn em
        cases b with
        | true => exact q.elim
        | false =>
          have := hW _ _ _ _ (q σ' h' R' g')
          exact fun dd v e1 e2 => ⟨false, hx, fun z => (nomatch z), fun _ => this dd v e1 e2⟩
theorem kit_ref {K : PySem.W.Frag} {C : Addr} {t : Value} {b : Bool} (hdct : PySem.W.hasDictIn K C = true) (ht : PySem.W.typeIn K (.ref C) = some (.type "type")) (h4 : PySem.W.subIn K t (.ref C) = some b) (h5 : PySem.W.subIn K (.ref C) (.ref C) = some true) : PySem.W.kitOne K t (.ref C) = some b := by
  obtain ⟨cd, hc, _⟩ := PySem.W.any_some hdct
  have e2 : ((PySem.W.clsIn K C).isSome && PySem.W.typeIn K (.ref C) == some (.type "type")) = true := by rw [hc, ht] <;> rfl
  show (if (t == Value.ref C) = true then some true else (if ((PySem.W.clsIn K C).isSome && PySem.W.typeIn K (.ref C) == some (.type "type")) = true then PySem.W.subIn K t (.ref C) else none)) = some b
  rw [if_pos e2, h4]
  by_cases h : (t == Value.ref C) = true
  · rw [if_pos h]
    have := eq_of_beq h
    subst this
    rw [h5] at h4
    exact h4
  · rw [if_neg h]
theorem kit_tyb {K : PySem.W.Frag} {C : Addr} {T : String} {b : Bool} (hm : PySem.W.kitMeta T = true) (h4 : PySem.W.subIn K (.ref C) (.type T) = some b) : PySem.W.kitOne K (.ref C) (.type T) = some b := by
  show (if (Value.ref C == Value.type T) = true then some true else (if PySem.W.kitMeta T = true then PySem.W.subIn K (.ref C) (.type T) else none)) = some b
  rw [if_pos hm, h4]
  by_cases h : (Value.ref C == Value.type T) = true
  · exact absurd (eq_of_beq h) (fun z => nomatch z)
  · rw [if_neg h]
/-! what a suite says of its exception -/
def tEc (i : Nat) (a : Addr) (b : Bool) : TE := fun σ H Q => σ[i]? = some (some (.ref a)) ∧ Q (.bl b) H
section
variable {i : Nat} {a : Addr} {b c : Bool} {p pos px pT : Pos} {e e1 e2 : Expr} {rest : List Expr}
theorem xisE {D : Addr} {oe : Obj} {pn : List (Addr × Obj)} {x y : Str} {cv : V} {cu : Value} (C : ExcC X.K D) (hz : Zc (.ref D) none oe) (hf : ∃ vs, oe.data = .fields vs) (hg : Gl (X.suite a ((a, oe) :: pn)) "isinstance") (hm : X.mg "isinstance" = none) (he : PE (X.suite a ((a, oe) :: pn)) (.Name x px) (tVar i)) (hT : PE (X.suite a ((a, oe) :: pn)) (.Name y pT) (tC cv)) (hcv : ∀ u, RelV cv u → u = cu) (hk : PySem.W.kitOne X.K (.ref D) cu = some b)
    (hs : starEach [.Name x px, .Name y pT] X.env = (false, eval (.Name x px) X.env) :: starEach [.Name y pT] X.env := by rfl) (hs2 : starEach [.Name y pT] X.env = (false, eval (.Name y pT) X.env) :: starEach [] X.env := by rfl) :
    PE (X.suite a ((a, oe) :: pn)) (.Call (.Name "isinstance" p) [.Name x px, .Name y pT] [] pos) (tEc i a b) := by
  refine peTo (pe_callB (call_isE C hz hf) hg hm boot_isinstance (pa_cons he (pa_cons hT pa_nil hs2) hs) (he := hs) (hpl := by rw [hs2]; rfl)) fun σ H Q q => ?_
  exact ⟨_, q.1, cv, cu, b, rfl, hcv, hk, q.2⟩
theorem xEnot (h : PE X e (tEc i a b)) : PE X (.UnaryOp .Not e pos) (tEc i a (!b)) := peTo (pe_not h) fun σ H Q q => ⟨q.1, b, rfl, q.2⟩
theorem xEone {op} (h : PE X e (tEc i a b)) : PE X (.BoolOp op [e] pos) (tEc i a b) := pe_one h
theorem xEand (h1 : PE X e1 (tEc i a b)) (h2 : PE X (.BoolOp .And (e2 :: rest) pos) (tEc i a c)) : PE X (.BoolOp .And (e1 :: e2 :: rest) pos) (tEc i a (b && c)) := peTo (pe_and h1 h2) fun σ H Q q => by
  refine ⟨q.1, b, rfl, ?_⟩
  cases b with
  | true => exact q
  | false => exact q.2
theorem xEor (h1 : PE X e1 (tEc i a b)) (h2 : PE X (.BoolOp .Or (e2 :: rest) pos) (tEc i a c)) : PE X (.BoolOp .Or (e1 :: e2 :: rest) pos) (tEc i a (b || c)) := peTo (pe_or h1 h2) fun σ H Q q => by
  refine ⟨q.1, b, rfl, ?_⟩
  cases b with
  | true => exact q.2
  | false => exact q
theorem xEset {j : Nat} {x : Str} {pos' : Pos} (hN : X.N.Nodup) (h : PE X e (tEc i a b)) (hi : X.N[j]? = some x := by rfl) (hx : Loc X.env.scope x := by first | exact Or.inl rfl | exact Or.inr rfl) (hs : swapsWith e (some (.Name x pos')) pos.line X.env = pure false := by rfl)
    (hf : X.fn x = true ∨ X.env.scope.names.lookup x = some .local := by first | exact .inl rfl | exact .inr rfl | assumption) : PS X (.Assign [.Name x pos'] e pos) (tSu X.K i a (asgS (cF (.bool b)) (asgn j))) :=
  psTo (ps_set hN hi hx h hs hf) fun D σ H ⟨hσ, h, ρ, e, R, q⟩ => by
    subst e
    exact ⟨hσ, q _ h (asgn_ok R R (i := j) (r := .v (.bool b)) (.bl b) rfl) (SG.refl h)⟩
theorem xEblk {s : Stmt} {f : SF} (h : PS X s (tSu X.K i a f)) : PSs X [s] (tSu X.K i a f) := pss_one h
end
end
end Sq

/-! a, b = x, y. -/
namespace Sq
open PySem PySem.Spec PyProof.Rows L2
section
variable {X : Cx} {W : WF}
def parS (i j : Nat) (r : AF) : SF := fun ρ => match r ρ with
  | .ok [a, b] => liftE ρ ((asgn i a ρ).bind fun ρ' => asgn j b ρ')
  | .ok _ => .bad
  | .exc c p => .exc c p ρ
  | .bad => .bad
def par3S (i j l : Nat) (r : AF) : SF := fun ρ => match r ρ with
  | .ok [a, b, c] => liftE ρ ((asgn i a ρ).bind fun ρ' => (asgn j b ρ').bind fun ρ2 => asgn l c ρ2)
  | .ok _ => .bad
  | .exc c p => .exc c p ρ
  | .bad => .bad
theorem asgn_two {h : Hs} {ρ ρ' : Env} {σ : L2.St} {i : Nat} {r : Rv} {v : V} {K : PySem.W.Frag} (R : Rel K h ρ σ) (ok : RvF K h v r) (e : asgn i r ρ = .ok ρ') : Rel K h ρ' (σ.set i (some v)) := asgn_ok R R (ok.rv) e
theorem xpar {i j : Nat} {x y : Str} {a b : Expr} {r : AF} {px py pt pos : Pos} {kt k2 pt2} (hc : X.calm = true) (hN : X.N.Nodup) (ha : PA X [a, b] (tXa X.K W r)) (hij : i ≠ j) (hw : swappedStores [.Tuple [.Name x px, .Name y py] kt pt] (.Tuple [a, b] k2 pt2) X.env = pure (some [x, y])) (hi : X.N[i]? = some x := by rfl) (hj : X.N[j]? = some y := by rfl)
    (hx : X.env.scope.names.lookup x = some .local := by rfl) (hy : X.env.scope.names.lookup y = some .local := by rfl)
    (hs : swapsWithSole [.Tuple [.Name x px, .Name y py] kt pt] (.Tuple [a, b] k2 pt2) pos.line X.env = pure false := by rfl) :
    PS X (.Assign [.Tuple [.Name x px, .Name y py] kt pt] (.Tuple [a, b] k2 pt2) pos) (tS X.K W (parS i j r)) :=
  psTo (ps_par hc hN hi hj hij hx hy ha hw hs) fun D σ H ⟨h, ρ, e, R, q⟩ => by
    subst e
    refine ⟨h, ρ, rfl, R, ?_⟩
    unfold parS at q
    cases er : r ρ with
    | bad => rw [er] at q; exact q.elim
    | exc c p => rw [er] at q; exact fun h' R' g => q σ h' R' g.sg
    | ok rs =>
      rw [er] at q
      intro vs h' R' g ok
      match rs, vs, q, ok with
      | [ra, rb], [v, w], q, ok =>
        obtain ⟨oa, ob, _⟩ := ok
        refine ⟨v, w, rfl, ?_⟩
        dsimp only at q
        cases e1 : asgn i ra ρ with
        | bad => rw [e1] at q; exact q.elim
        | exc c p => exact absurd e1 (asgn_ne _ _ _ _)
        | ok ρ1 =>
          rw [e1] at q
          have R1 := asgn_two R' oa e1
          have q1 : Post X.K W D h (liftE ρ (asgn j rb ρ1)) := q
          cases e2 : asgn j rb ρ1 with
          | bad => rw [e2] at q1; exact q1.elim
          | exc c p => exact absurd e2 (asgn_ne _ _ _ _)
          | ok ρ2 =>
            rw [e2] at q1
            exact q1 _ h' (asgn_two R1 ob e2) g.sg
      | [], _, q, _ => exact q.elim
      | [_], _, q, _ => exact q.elim
      | _ :: _ :: _ :: _, _, q, _ => exact q.elim
      | [_, _], [], _, ok => exact ok.elim
      | [_, _], [_], _, ok => exact ok.2.elim
      | [_, _], _ :: _ :: _ :: _, _, ok => exact ok.2.2.elim
theorem xpar3 {i j l : Nat} {x y z : Str} {a b c : Expr} {r : AF} {px py pz pt pos : Pos} {kt k2 pt2} (hc : X.calm = true) (hN : X.N.Nodup) (ha : PA X [a, b, c] (tXa X.K W r)) (hij : i ≠ j) (hil : i ≠ l) (hjl : j ≠ l) (hw : swappedStores [.Tuple [.Name x px, .Name y py, .Name z pz] kt pt] (.Tuple [a, b, c] k2 pt2) X.env = pure (some [x, y, z])) (hi : X.N[i]? = some x := by rfl) (hj : X.N[j]? = some y := by rfl) (hl : X.N[l]? = some z := by rfl)
    (hx : X.env.scope.names.lookup x = some .local := by rfl) (hy : X.env.scope.names.lookup y = some .local := by rfl) (hz : X.env.scope.names.lookup z = some .local := by rfl)
    (hs : swapsWithSole [.Tuple [.Name x px, .Name y py, .Name z pz] kt pt] (.Tuple [a, b, c] k2 pt2) pos.line X.env = pure false := by rfl) :
    PS X (.Assign [.Tuple [.Name x px, .Name y py, .Name z pz] kt pt] (.Tuple [a, b, c] k2 pt2) pos) (tS X.K W (par3S i j l r)) :=
  psTo (ps_par3 hc hN hi hj hl hij hil hjl hx hy hz ha hw hs) fun D σ H ⟨h, ρ, e, R, q⟩ => by
    subst e
    refine ⟨h, ρ, rfl, R, ?_⟩
    unfold par3S at q
    cases er : r ρ with
    | bad => rw [er] at q; exact q.elim
    | exc c p => rw [er] at q; exact fun h' R' g => q σ h' R' g.sg
    | ok rs =>
      rw [er] at q
      intro vs h' R' g ok
      match rs, vs, q, ok with
      | [ra, rb, rc], [v, w, u], q, ok =>
        obtain ⟨oa, ob, oc, _⟩ := ok
        refine ⟨v, w, u, rfl, ?_⟩
        dsimp only at q
        cases e1 : asgn i ra ρ with
        | bad => rw [e1] at q; exact q.elim
        | exc c p => exact absurd e1 (asgn_ne _ _ _ _)
        | ok ρ1 =>
          rw [e1] at q
          have R1 := asgn_two R' oa e1
          have q1 : Post X.K W D h (liftE ρ ((asgn j rb ρ1).bind fun ρ2 => asgn l rc ρ2)) := q
          cases e2 : asgn j rb ρ1 with
          | bad => rw [e2] at q1; exact q1.elim
          | exc c p => exact absurd e2 (asgn_ne _ _ _ _)
          | ok ρ2 =>
            rw [e2] at q1
            have R2 := asgn_two R1 ob e2
            have q2 : Post X.K W D h (liftE ρ (asgn l rc ρ2)) := q1
            cases e3 : asgn l rc ρ2 with
            | bad => rw [e3] at q2; exact q2.elim
            | exc c p => exact absurd e3 (asgn_ne _ _ _ _)
            | ok ρ3 =>
              rw [e3] at q2
              exact q2 _ h' (asgn_two R2 oc e3) g.sg
      | [], _, q, _ => exact q.elim
      | [_], _, q, _ => exact q.elim
      | [_, _], _, q, _ => exact q.elim
      | _ :: _ :: _ :: _ :: _, _, q, _ => exact q.elim
      | [_, _, _], [], _, ok => exact ok.elim
      | [_, _, _], [_], _, ok => exact ok.2.elim
      | [_, _, _], [_, _], _, ok => exact ok.2.2.elim
      | [_, _, _], _ :: _ :: _ :: _ :: _, _, ok => exact ok.2.2.2.elim
end
end Sq

/-! zip of two, range of three. -/
namespace Sq
open PySem PySem.Spec PyProof.Rows L2
section
variable {K : PySem.W.Frag} {W : WF} {X : Cx} {a b e e2 : Expr} {tg : Expr} {f g : EF} {p pos : Pos} {P : Hs → Hs → Prop}
def zArg : Rv → Option (Bool × List Rv)
  | .v (.list xs) => some (true, xs.map .v)
  | .v (.tuple xs) => some (false, xs.map .v)
  | .b (.list xs) => some (true, xs.map .b)
  | .b (.tuple xs) => some (false, xs.map .b)
  | _ => none
def pairR : Rv → Rv → Option Rv
  | .v x, .v y => some (.v (.tuple [x, y]))
  | .b x, .b y => some (.b (.tuple [x, y]))
  | .v x, .b y => some (.b (.tuple [x, y]))
  | .b x, .v y => some (.b (.tuple [x, y]))
  | _, _ => none
def zipR : List Rv → List Rv → Option (List Rv)
  | r :: rs, s :: ss => match pairR r s, zipR rs ss with
    | some q, some qs => some (q :: qs)
    | _, _ => none
  | _, _ => some []
theorem zipR_cons {r s : Rv} {rs ss qs : List Rv} (e : zipR (r :: rs) (s :: ss) = some qs) : ∃ q qs', pairR r s = some q ∧ zipR rs ss = some qs' ∧ qs = q :: qs' := by
  unfold zipR at e
  split at e
  · rename_i q qs' h1 h2
    cases e
    exact ⟨q, qs', h1, h2, rfl⟩
  · cases e
theorem zipR_len : ∀ {rs ss qs : List Rv}, zipR rs ss = some qs → qs.length = min rs.length ss.length
  | [], _, _, e => by
    unfold zipR at e
    cases e
    simp
  | _ :: _, [], _, e => by
    unfold zipR at e
    cases e
    simp
  | r :: rs, s :: ss, qs, e => by
    obtain ⟨q, qs', h1, h2, rfl⟩ := zipR_cons e
    have := zipR_len h2
    simp [this]
theorem zipR_get : ∀ {rs ss qs : List Rv} {i : Nat} {r s : Rv}, zipR rs ss = some qs → rs[i]? = some r → ss[i]? = some s → ∃ q, qs[i]? = some q ∧ pairR r s = some q
  | [], _, _, _, _, _, _, e, _ => by simp at e
  | _ :: _, [], _, _, _, _, _, _, e => by simp at e
  | r' :: rs, s' :: ss, qs, 0, r, s, e, e1, e2 => by
    obtain ⟨q, qs', h1, h2, rfl⟩ := zipR_cons e
    have e1' : r' = r := by simpa using e1
    have e2' : s' = s := by simpa using e2
    subst e1' e2'
    exact ⟨q, rfl, h1⟩
  | r' :: rs, s' :: ss, qs, i + 1, r, s, e, e1, e2 => by
    obtain ⟨q, qs', h1, h2, rfl⟩ := zipR_cons e
    obtain ⟨q2, h3, h4⟩ := zipR_get (i := i) h2 (by simpa using e1) (by simpa using e2)
    exact ⟨q2, by simpa using h3, h4⟩
theorem zArg_ok {h : Hs} {v : V} {a : Rv} {k : Bool} {rs : List Rv} (e : zArg a = some (k, rs)) (ok : RvF K h v a) : ∃ p vs, v = .ref p ∧ (∀ h2, SG h h2 → Ch h2 → VsF K h2 vs rs) ∧ (k = true → ∀ h2, SG h h2 → Ch h2 → SqL K h2.H p vs) ∧ (k = false → ∀ h2, SG h h2 → Ch h2 → SqT K h2.H p vs) := by
  unfold zArg at e
  split at e
  · cases e
    obtain ⟨p, vs, rfl, s, d⟩ := dp_lst ok
    exact ⟨p, vs, rfl, fun h2 s2 c2 => vsf_map (mk := Rv.v) (fun _ _ q => q) (ex_dpa s2.g d), fun _ h2 s2 c2 => ex_l (s2.g.trans c2.gh) s, fun z => nomatch z⟩
  · cases e
    obtain ⟨p, vs, rfl, s, d⟩ := dp_tup ok
    exact ⟨p, vs, rfl, fun h2 s2 c2 => vsf_map (mk := Rv.v) (fun _ _ q => q) (ex_dpa s2.g d), fun z => (nomatch z), fun _ h2 s2 c2 => ex_t (s2.g.trans c2.gh) s⟩
  · cases e
    obtain ⟨p, vs, rfl, s, d⟩ := dp_lst ok
    exact ⟨p, vs, rfl, fun h2 s2 c2 => vsf_map (mk := Rv.b) (fun _ _ q => q) (ex_dpa s2.f d), fun _ h2 s2 c2 => ex_l (s2.f.trans c2.fh) s, fun z => nomatch z⟩
  · cases e
    obtain ⟨p, vs, rfl, s, d⟩ := dp_tup ok
    exact ⟨p, vs, rfl, fun h2 s2 c2 => vsf_map (mk := Rv.b) (fun _ _ q => q) (ex_dpa s2.f d), fun z => (nomatch z), fun _ h2 s2 c2 => ex_t (s2.f.trans c2.fh) s⟩
  · cases e
theorem pair_new2 {h : Hs} (c : Ch h) {T : Addr} (n : h.H T = none) {v w : V} {r s q : Rv} (o1 : RvF K h v r) (o2 : RvF K h w s) (hq : pairR r s = some q) :
    ∃ h', h'.H = upd h.H T (.tup [v, w]) ∧ Gr h h' ∧ Ch h' ∧ RvF K h' (.ref T) q := by
  unfold pairR at hq
  split at hq
  · cases hq
    exact ⟨h.newV T (.tup [v, w]), rfl, Gr.newV c n, c.newV, Dp.tup (SqT.of upd_same) (.cons (ex_dp (Ex.new (c.gN n)) o1) (.cons (ex_dp (Ex.new (c.gN n)) o2) .nil))⟩
  · cases hq
    exact ⟨h.newB T (.tup [v, w]), rfl, Gr.newB c n, c.newB n, Dp.tup (SqT.of upd_same) (.cons (ex_dp (Ex.new (c.fN n)) o1) (.cons (ex_dp (Ex.new (c.fN n)) o2) .nil))⟩
  · cases hq
    exact ⟨h.newB T (.tup [v, w]), rfl, Gr.newB c n, c.newB n, Dp.tup (SqT.of upd_same) (.cons (ex_dp (Ex.new (c.fN n)) (ex_dp c.gf o1)) (.cons (ex_dp (Ex.new (c.fN n)) o2) .nil))⟩
  · cases hq
    exact ⟨h.newB T (.tup [v, w]), rfl, Gr.newB c n, c.newB n, Dp.tup (SqT.of upd_same) (.cons (ex_dp (Ex.new (c.fN n)) o1) (.cons (ex_dp (Ex.new (c.fN n)) (ex_dp c.gf o2)) .nil))⟩
  · cases hq
theorem itz_ok {h0 : Hs} {rs ss qs : List Rv} {a b : Addr} {vs ws : List V} (hq : zipR rs ss = some qs) (ha : ∀ h, P h0 h → Ch h → SqL K h.H a vs) (hb : ∀ h, P h0 h → Ch h → SqL K h.H b ws) (hv : ∀ h, P h0 h → Ch h → VsF K h vs rs) (hw : ∀ h, P h0 h → Ch h → VsF K h ws ss) : ItOk P K (Itz K a b) h0 qs where
  go := fun i h p c hi => by
    have hl := zipR_len hq
    have h1 := (hv h p c).len
    have h2 := (hw h p c).len
    have i1 : i < vs.length := by omega
    have i2 : i < ws.length := by omega
    exact ⟨vs, ws, vs[i], ws[i], ha h p c, hb h p c, List.getElem?_eq_getElem i1, List.getElem?_eq_getElem i2⟩
  stop := fun i h p c hi => by
    have hl := zipR_len hq
    have h1 := (hv h p c).len
    have h2 := (hw h p c).len
    exact ⟨vs, ws, ha h p c, hb h p c, by omega⟩
  yld := fun i h v H' p c hi y => by
    obtain ⟨T, x, y', rfl, n, rfl, y1, y2⟩ := y
    obtain ⟨r, e1, o1⟩ := (hv h p c).get (y1 vs (ha h p c))
    obtain ⟨s, e2, o2⟩ := (hw h p c).get (y2 ws (hb h p c))
    obtain ⟨q, e3, e4⟩ := zipR_get hq e1 e2
    obtain ⟨h', eh, g, c', ok⟩ := pair_new2 c n o1 o2 e4
    exact ⟨h', q, eh, g, c', e3, ok⟩
theorem itzt_ok {h0 : Hs} {rs ss qs : List Rv} {a b : Addr} {vs ws : List V} (hq : zipR rs ss = some qs) (ha : ∀ h, P h0 h → Ch h → SqT K h.H a vs) (hb : ∀ h, P h0 h → Ch h → SqT K h.H b ws) (hv : ∀ h, P h0 h → Ch h → VsF K h vs rs) (hw : ∀ h, P h0 h → Ch h → VsF K h ws ss) : ItOk P K (RZ.ItzT K a b) h0 qs where
  go := fun i h p c hi => by
    have hl := zipR_len hq
    have h1 := (hv h p c).len
    have h2 := (hw h p c).len
    have i1 : i < vs.length := by omega
    have i2 : i < ws.length := by omega
    exact ⟨vs, ws, vs[i], ws[i], ha h p c, hb h p c, List.getElem?_eq_getElem i1, List.getElem?_eq_getElem i2⟩
  stop := fun i h p c hi => by
    have hl := zipR_len hq
    have h1 := (hv h p c).len
    have h2 := (hw h p c).len
    exact ⟨vs, ws, ha h p c, hb h p c, by omega⟩
  yld := fun i h v H' p c hi y => by
    obtain ⟨T, x, y', rfl, n, rfl, y1, y2⟩ := y
    obtain ⟨r, e1, o1⟩ := (hv h p c).get (y1 vs (ha h p c))
    obtain ⟨s, e2, o2⟩ := (hw h p c).get (y2 ws (hb h p c))
    obtain ⟨q, e3, e4⟩ := zipR_get hq e1 e2
    obtain ⟨h', eh, g, c', ok⟩ := pair_new2 c n o1 o2 e4
    exact ⟨h', q, eh, g, c', e3, ok⟩
def zipK (as : List Rv) : Er (List Rv) := match as with
  | [a, b] => match zArg a, zArg b with
    | some (k, rs), some (k', ss) => if k = k' then (match zipR rs ss with
      | some qs => .ok qs
      | none => .bad) else .bad
    | _, _ => .bad
  | _ => .bad
def zipF (r : AF) : IF := fun ρ => (r ρ).bind zipK
theorem xzip {elts : List Expr} {kk : Nat} {tpos : Pos} {r : AF} (hP : ∀ h h2, P h h2 → SG h h2) (hg : Gl X "zip") (hm : X.mg "zip" = none) (ha : PA X [e, e2] (tXa X.K W r))
    (hs : starEach [e, e2] X.env = (false, eval e X.env) :: starEach [e2] X.env := by rfl) (hpl : (backTo pos (starEach [e2] X.env)).any (·.1) = false := by rfl) :
    PI X (.Tuple elts kk tpos) (.Call (.Name "zip" p) [e, e2] [] pos) (tI P X.K W (zipF r)) := by
  refine piTo (RZ.pi_zipA hg hm ha hs hpl) fun σ H R q => ?_
  obtain ⟨h, ρ, rfl, Rl, q⟩ := q
  refine ⟨h, ρ, rfl, Rl, PI1.bindA q fun as vs h1 _ R1 g1 ok q1 => ?_⟩
  unfold zipK at q1
  split at q1
  rotate_left
  · exact q1.elim
  rename_i a b
  split at q1
  rotate_left
  · exact q1.elim
  rename_i k rs k' ss ea eb
  split at q1
  rotate_left
  · exact q1.elim
  rename_i ek
  subst ek
  split at q1
  rotate_left
  · exact q1.elim
  rename_i qs hq
  match vs, ok with
  | [v, w], ok =>
    obtain ⟨oa, ob, _⟩ := ok
    obtain ⟨pa, va, rfl, ha1, ha2, ha3⟩ := zArg_ok ea oa
    obtain ⟨pb, vb, rfl, hb1, hb2, hb3⟩ := zArg_ok eb ob
    refine ⟨pa, pb, va, vb, rfl, ?_⟩
    cases k with
    | true => exact .inl ⟨ha2 rfl h1 (SG.refl _) R1.ch, hb2 rfl h1 (SG.refl _) R1.ch, q1 _ h1 R1 (Gr.refl _) (itz_ok hq (fun h p => ha2 rfl h (hP _ _ p)) (fun h p => hb2 rfl h (hP _ _ p)) (fun h p => ha1 h (hP _ _ p)) (fun h p => hb1 h (hP _ _ p)))⟩
    | false => exact .inr ⟨ha3 rfl h1 (SG.refl _) R1.ch, hb3 rfl h1 (SG.refl _) R1.ch, q1 _ h1 R1 (Gr.refl _) (itzt_ok hq (fun h p => ha3 rfl h (hP _ _ p)) (fun h p => hb3 rfl h (hP _ _ p)) (fun h p => ha1 h (hP _ _ p)) (fun h p => hb1 h (hP _ _ p)))⟩
  | [], ok => exact ok.elim
  | [_], ok => exact ok.2.elim
  | _ :: _ :: _ :: _, ok => exact ok.2.2.elim
theorem xzipS {elts : List Expr} {kk : Nat} {tpos : Pos} {r : AF} (hg : Gl X "zip") (hm : X.mg "zip" = none) (ha : PA X [e, e2] (tXa X.K W r))
    (hs : starEach [e, e2] X.env = (false, eval e X.env) :: starEach [e2] X.env := by rfl) (hpl : (backTo pos (starEach [e2] X.env)).any (·.1) = false := by rfl) :
    PI X (.Tuple elts kk tpos) (.Call (.Name "zip" p) [e, e2] [] pos) (tI SG X.K W (zipF r)) := xzip (fun _ _ q => q) hg hm ha hs hpl
theorem xzipC {elts : List Expr} {kk : Nat} {tpos : Pos} {r : AF} (hg : Gl X "zip") (hm : X.mg "zip" = none) (ha : PA X [e, e2] (tXa X.K W r))
    (hs : starEach [e, e2] X.env = (false, eval e X.env) :: starEach [e2] X.env := by rfl) (hpl : (backTo pos (starEach [e2] X.env)).any (·.1) = false := by rfl) :
    PI X (.Tuple elts kk tpos) (.Call (.Name "zip" p) [e, e2] [] pos) (tI Gr X.K W (zipF r)) := xzip (fun _ _ q => q.sg) hg hm ha hs hpl
/-! range of three -/
def rgC (lo c : Int) (n : Nat) : List Rv := (List.range n).map fun i : Nat => .v (.int (lo + (i : Nat) * c))
def rg3K (as : List Rv) : Er (List Rv) := match as with
  | [.v (.int i), .v (.int j), .v (.int c)] => if c ≠ 0 ∧ c.natAbs < 1073741824 ∧ Builtin.Range.small i j c = true then .ok (rgC i c (Builtin.Range.rangeSize i j c).toNat) else .bad
  | _ => .bad
def rg3F (r : AF) : IF := fun ρ => (r ρ).bind rg3K
theorem itc_ok {h0 : Hs} {lo c : Int} {n : Nat} : ItOk P K (Itc lo c n) h0 (rgC lo c n) where
  go := fun i h p _ hi => by
    have hi2 : i < n := by simpa [rgC] using hi
    exact hi2
  stop := fun i h p _ hi => by
    have : n ≤ i := by simpa [rgC] using hi
    exact this
  yld := fun i h v H' p ch hi y => by
    obtain ⟨e1, e2⟩ := y
    subst e1 e2
    have hi2 : i < n := by simpa [rgC] using hi
    refine ⟨h, .v (.int (lo + (i : Nat) * c)), rfl, Gr.refl h, ch, ?_, .int _⟩
    unfold rgC
    rw [List.getElem?_map, List.getElem?_range hi2]
    rfl
theorem xrg3 {a b c : Expr} {r : AF} (hg : Gl X "range") (hm : X.mg "range" = none) (ha : PA X [a, b, c] (tXa X.K W r))
    (hs : starEach [a, b, c] X.env = (false, eval a X.env) :: starEach [b, c] X.env := by rfl) (hpl : (backTo pos (starEach [b, c] X.env)).any (·.1) = false := by rfl) :
    PI X tg (.Call (.Name "range" p) [a, b, c] [] pos) (tI P X.K W (rg3F r)) := by
  refine piTo (pi_range3 hg hm ha hs hpl) fun σ H R q => ?_
  obtain ⟨h, ρ, rfl, Rl, q⟩ := q
  refine ⟨h, ρ, rfl, Rl, PI1.bindA q fun as vs h1 _ R1 g1 ok q1 => ?_⟩
  unfold rg3K at q1
  split at q1
  rotate_left
  · exact q1.elim
  rename_i i j c' _
  split at q1
  rotate_left
  · exact q1.elim
  rename_i hc
  match vs, ok with
  | [v, w, u], ok =>
    obtain ⟨o1, o2, o3, _⟩ := ok
    have e1 := dp_int o1
    have e2 := dp_int o2
    have e3 := dp_int o3
    subst e1 e2 e3
    exact ⟨i, j, c', _, rfl, ⟨hc.1, hc.2.1, hc.2.2, rangeSize_toNat i j c'⟩, q1 _ h1 R1 (Gr.refl _) itc_ok⟩
  | [], ok => exact ok.elim
  | [_], ok => exact ok.2.elim
  | [_, _], ok => exact ok.2.2.elim
  | _ :: _ :: _ :: _ :: _, ok => exact ok.2.2.2.elim
end
end Sq

/-! l.extend(m), m a list of any kind. -/
namespace Sq
open PySem PySem.Spec PyProof.Rows L2
theorem ext_any (l : Addr) (items : Array Value) (n : Nat) (b : Addr) (its : Array Value) (m : Nat) (sl : Array (Option Value)) (h0 : ¬(!items.isEmpty && Builtin.List.listTooLong (items.size + its.size)) = true) (h1 : items.size ≤ sizeLine) (h2 : items.size + its.size ≤ sizeLine + 1) :
    Meets (Builtin.«list.extend» ⟨[.ref l, .ref b], []⟩) (fun _ R s => s.heap.get? l = some { cls := .type "list", dict := none, data := .seq items n, slots := #[] } ∧ s.heap.get? b = some { cls := .type "list", dict := none, data := .seq its m, slots := sl } ∧ R (.ok (.ret Value.none)) { s with heap := s.heap.update l (Obj.mapSeq fun x => x ++ its), toks := s.toks }) :=
  .of_wp fun prog w A R s h => by
    obtain ⟨hp, g, d, tk, os⟩ := s
    obtain ⟨hl, hb, h⟩ := h
    have f1 := sub_list_list
    have f2 := sub_list_tuple
    have hz' : (items ++ its).size ≤ sizeLine + 1 := by rw [Array.size_append]; exact h2
    wp_walk using (wpAny_updateSeq hl rfl (hz := h1) (_hz' := hz')), wpAny_loadPart' hl, wpAny_loadPart' hb
    exact ⟨_, rfl, h⟩

def rExtA (K : PySem.W.Frag) : V → List V → Hp → VK → Prop := fun x vs H Q => ∃ l b xs zs, x = .ref l ∧ vs = [.ref b] ∧ H l = some (.lst xs) ∧ SqL K H b zs ∧ xs.length + zs.length ≤ sizeLine ∧ Q .non (upd H l (.lst (xs ++ zs)))
theorem mt_extA {X : Cx} : MtM X "list.extend" (rExtA X.K) := by
  intro pins s σ H x vs v us Q I rx rv h
  obtain ⟨l, b, xs, zs, rfl, rfl, hH, hB, hz, q⟩ := h
  cases rx
  obtain ⟨u, rfl, ru⟩ := rv.one
  cases ru
  obtain ⟨z, its, n, r, hl, e⟩ := I.lstM hH
  obtain ⟨its2, r2, p2, z2⟩ := I.list hB
  obtain ⟨o, n2, e2, hc, hd, hs⟩ := p2
  obtain ⟨oc, od, oda, osl⟩ := o
  dsimp only at hc hd hs
  subst hc hd hs
  have hl2 := r2.length
  have hsz : its.toArray.size + its2.toArray.size ≤ sizeLine := by rw [List.size_toArray, List.size_toArray]; omega
  have hlong : ¬ (!its.toArray.isEmpty && Builtin.List.listTooLong (its.toArray.size + its2.toArray.size)) = true := by
    rw [notLongL hsz, Bool.and_false]
    exact Bool.false_ne_true
  refine call_meets F.slot_list_extend ⟨_, e, rfl⟩ F.entry_list_extend (F.args_list_extend_2 _ _)
    (ext_any l its.toArray n b its2.toArray n2 osl hlong (by rw [List.size_toArray]; omega) (by omega)) ⟨e, e2, ?_⟩
  refine ⟨.non, _, I.lset (its' := its ++ its2) hH e (by simp) (r.append r2) ?_, rfl, q⟩
  rw [List.length_append]
  omega
section
variable {X : Cx} {W : WF}
/-- l.extend(e), l a local -/
def extS (i : Nat) (f : EF) : SF := fun ρ => match slot ρ i with
  | .o xs => thenS ρ (f ρ) fun r => match r with
    | .v (.list ys) => if xs.length + ys.length ≤ 100000 then .next (ρ.set i (.o (xs ++ ys))) else .bad
    | .w ys => if xs.length + ys.length ≤ 100000 then .next (ρ.set i (.o (xs ++ ys))) else .bad
    | .o ys => if xs.length + ys.length ≤ 100000 then .next (ρ.set i (.o (xs ++ ys))) else .bad
    | _ => .bad
  | _ => .bad
theorem ext_go {K : PySem.W.Frag} {D : Ends} {h : Hs} {ρ : Env} {σ : L2.St} {h' : Hs} {i : Nat} {xs ys : List PyData} (R' : Rel K h' ρ σ) (es : slot ρ i = .o xs) {p l : Addr} {ws : List V} (ex : σ[i]? = some (some (.ref l))) (s : SqL K h'.H p ws) (d : DpAll K h'.G ws ys) (g : SG h h')
    (q : Post K W D h (if xs.length + ys.length ≤ 100000 then .next (ρ.set i (.o (xs ++ ys))) else .bad)) :
    ∃ l' b xs' zs, (V.ref l) = .ref l' ∧ [V.ref p] = [.ref b] ∧ h'.H l' = some (.lst xs') ∧ SqL K h'.H b zs ∧ xs'.length + zs.length ≤ sizeLine ∧ D.nx σ (upd h'.H l' (.lst (xs' ++ zs))) := by
  split at q
  · rename_i hle
    obtain ⟨l2, vs2, ex2, hl2, hd2, hlen2, mt⟩ := mut_now R' es
    rw [ex] at ex2
    cases ex2
    obtain ⟨R3, g3⟩ := mt (vs2 ++ ws) (xs ++ ys) (hd2.append d)
    have := d.len
    exact ⟨l, p, vs2, ws, rfl, rfl, hl2, s, by rw [hlen2, this]; exact Nat.le_trans hle (by decide), q σ _ R3 (g.trans g3)⟩
  · exact q.elim
theorem xext (i : Nat) {e o : Expr} {f : EF} {pos apos spos : Pos} (he : PE X (.Call (.Attribute o "extend" apos) [e] [] pos) (tBM X.K "list" (rExtA X.K) (tVar i) (tCons (tX X.K W f) tNil))) (hs : swapsWith (.Call (.Attribute o "extend" apos) [e] [] pos) none spos.line X.env = pure false := by rfl) :
    PS X (.Expr (.Call (.Attribute o "extend" apos) [e] [] pos) spos) (tS X.K W (extS i f)) := by
  refine psTo (ps_expr he hs) fun D σ H ⟨h, ρ, eh, R, q⟩ => ?_
  subst eh
  unfold extS at q
  split at q
  · rename_i xs es
    obtain ⟨l, vs, ex, hl, hd, hlen, _⟩ := mut_now R es
    refine ⟨.ref l, ex, .inl ⟨rfl, vs, .of hl⟩, ?_⟩
    refine (tX_mk (f := f) R (q.then fun r v h' _ R' g' ok q' => ?_) : tX X.K W f σ h.H _)
    split at q'
    · obtain ⟨p, ws, rfl, s, d⟩ := dp_lst ok
      exact ext_go R' es ex (ex_l R'.ch.gh s) d g'.sg q'
    · obtain ⟨p, ws, rfl, s, d⟩ := ok
      exact ext_go R' es ex (.inl (.of s)) d g'.sg q'
    · obtain ⟨p, ws, rfl, n, s, fl, d⟩ := ok
      exact ext_go R' es ex (.inl (.of s)) d g'.sg q'
    · exact q'.elim
  · exact q.elim
end
end Sq

/-! [x] * n; a text walked. -/
namespace Sq
open PySem PySem.Spec PyProof.Rows L2
section
variable {X : Cx} {W : WF} {K : PySem.W.Frag} {a b e : Expr} {f g : EF} {pos : Pos} {P : Hs → Hs → Prop} {tg : Expr}
def lrep (a b : Rv) : Er Rv := match a.lst, b.dat with
  | some xs, some (.int k) => if -(2 ^ 63) ≤ k ∧ k < 2 ^ 63 ∧ xs.length * k.toNat ≤ 100000 then .ok (.o (List.replicate k.toNat xs).flatten) else .bad
  | _, _ => .bad
theorem dpa_app {H : Hp} : ∀ {vs ws : List V} {ds es : List D}, DpAll K H vs ds → DpAll K H ws es → DpAll K H (vs ++ ws) (ds ++ es)
  | _, _, _, _, .nil, q => q
  | _, _, _, _, .cons a t, q => .cons a (dpa_app t q)
theorem dpa_rep {H : Hp} {vs : List V} {ds : List D} (h : DpAll K H vs ds) : ∀ n : Nat, DpAll K H (List.replicate n vs).flatten (List.replicate n ds).flatten
  | 0 => .nil
  | n + 1 => by
    rw [List.replicate_succ, List.replicate_succ, List.flatten_cons, List.flatten_cons]
    exact dpa_app h (dpa_rep h n)
theorem ok_lrep : OpOk K W lrep rRep := by
  intro h0 h ρ σ x y a b Q R0 R g oka okb q
  unfold lrep at q
  split at q
  · rename_i xs k ea eb
    split at q
    · rename_i hk
      obtain ⟨l, vs, rfl, hl, d⟩ := RvOk.lst ea oka
      have ev := dp_int (okb.dp R.ch eb)
      subst ev
      refine ⟨l, k, vs, rfl, rfl, hl, hk.1, hk.2.1, by rw [d.len]; exact Nat.le_trans hk.2.2 (by decide), fun p hp => q.newL R (dpa_rep d _) hp⟩
    · exact q.elim
  · exact q.elim
theorem xrep (ha : PE X a (tX X.K W f)) (hb : PE X b (tX X.K W g)) : PE X (.BinOp a .Mult b pos) (tX X.K W (binF lrep f g)) := peTo (pe_op op_rep ha hb) (bin_of ok_lrep)
/-! a text walked -/
def chars (s : Str) : List Rv := s.cps.toList.map fun c => .v (.str ⟨#[c]⟩)
def itT (a : Rv) : Er (List Rv) := match a.dat with
  | some (.str s) => .ok (chars s)
  | _ => .bad
theorem its_ok {h0 : Hs} {s : Str} : ItOk P K (Its s) h0 (chars s) where
  go := fun i h p c hi => by
    have : i < s.cps.size := by simpa [chars] using hi
    exact this
  stop := fun i h p c hi => by
    have : s.cps.size ≤ i := by simpa [chars] using hi
    exact this
  yld := fun i h v H' p c hi y => by
    obtain ⟨e1, ch, e2, e3⟩ := y
    subst e1 e3
    refine ⟨h, .v (.str ⟨#[ch]⟩), rfl, Gr.refl h, c, ?_, .str _⟩
    unfold chars
    rw [List.getElem?_map, Array.getElem?_toList, e2]
    rfl
theorem xiT (he : PE X e (tX X.K W f)) : PI X tg e (tI P X.K W (itF itT f)) := by
  refine piTo (pi_str he) fun σ H R q => ?_
  obtain ⟨h, ρ, rfl, Rl, q⟩ := q
  refine tX_mk Rl (PI1.bindE q fun a v h1 _ R1 g1 ok1 q1 => ?_)
  unfold itT at q1
  split at q1
  · rename_i s ea
    have d := ok1.dp R1.ch ea
    cases d
    exact ⟨s, rfl, q1 _ h1 R1 (Gr.refl _) its_ok⟩
  · exact q1.elim
theorem itT_ne {a : Rv} {c : Str} {p : Option (Str × PyData)} : itT a ≠ .exc c p := by
  intro e
  unfold itT at e
  split at e <;> cases e
end
end Sq

/-! {k: v, ..}. -/
namespace Sq
open PySem PySem.Spec PyProof.Rows L2
section
variable {X : Cx} {W : WF} {K : PySem.W.Frag} {f g : EF} {r : AF}
theorem PE1.mono {h : Hs} {ρ : Env} {σ : L2.St} {Q Q' : VK} (k : ∀ v H, Q v H → Q' v H) : ∀ {e : Er Rv}, PE1 K W h ρ σ Q e → PE1 K W h ρ σ Q' e
  | .ok r, q => fun v h' R g ok => k _ _ (q v h' R g ok)
  | .exc c p, q => q
  | .bad, q => q
theorem tX_mono {σ : L2.St} {H : Hp} {Q Q' : VK} (k : ∀ v H, Q v H → Q' v H) (q : tX K W f σ H Q) : tX K W f σ H Q' := by
  obtain ⟨h, ρ, rfl, R, q⟩ := tX_iff.mp q
  exact tX_mk R (q.mono k)
theorem tXa_mono {σ : L2.St} {H : Hp} {Q Q' : List V → Hp → Prop} (k : ∀ v H, Q v H → Q' v H) (q : tXa K W r σ H Q) : tXa K W r σ H Q' := by
  obtain ⟨h, ρ, rfl, R, q⟩ := q
  refine ⟨h, ρ, rfl, R, ?_⟩
  cases er : r ρ with
  | ok rs => rw [er] at q; exact fun v h' R g ok => k _ _ (q v h' R g ok)
  | exc c p => rw [er] at q; exact q
  | bad => rw [er] at q; exact q
theorem acons_of {σ : L2.St} {H : Hp} {Q : List V → Hp → Prop} (q : tXa K W (aCons f r) σ H Q) : tX K W f σ H fun v H1 => tXa K W r σ H1 fun vs H2 => Q (v :: vs) H2 := by
  obtain ⟨h, ρ, rfl, R, q⟩ := q
  refine tX_mk R (PA1.bindE q fun a v h1 _ R1 g1 ok1 q1 => ?_)
  cases ez : a.frz with
  | exc c p => exact absurd ez frz_ne
  | bad => rw [ez] at q1; exact q1.elim
  | ok a' =>
    rw [ez] at q1
    obtain ⟨h2, eh, R2, g2, ok2⟩ := frz_ok R R1 g1 ez ok1
    rw [← eh]
    have q2 : PA1 K W h2 ρ σ Q ((r ρ).bind fun as => .ok (a' :: as)) := by
      have q0 : PA1 K W h ρ σ Q ((r ρ).bind fun as => .ok (a' :: as)) := by
        have e0 : aCons f r ρ = (r ρ).bind fun as => .ok (a' :: as) := by
          unfold aCons
          rw [show f ρ = .ok a by assumption]
          show (a.frz.bind _) = _
          rw [ez]
          rfl
        rw [e0] at q
        exact q
      exact PA1.shift g2 q0
    refine ⟨h2, ρ, rfl, R2, PA1.bindA q2 fun as vs h3 _ R3 g3 ok3 q3 => ?_⟩
    exact q3 _ h3 R3 (Gr.refl _) ⟨(RvF.of ez ok2).grow g3, ok3⟩
def flatA : List (EF × EF) → AF
  | [] => aNil
  | (f, g) :: r => aCons f (aCons g (flatA r))
def flatV : List (V × V) → List V
  | [] => []
  | (x, y) :: r => x :: y :: flatV r
theorem pairs_of : ∀ (fs : List (EF × EF)) (σ : L2.St) (H : Hp) (Q : List (V × V) → Hp → Prop), tXa K W (flatA fs) σ H (fun vs H' => ∃ ps, vs = flatV ps ∧ Q ps H') → tPairs (fs.map fun f => (tX K W f.1, tX K W f.2)) σ H Q
  | [], σ, H, Q, q => by
    obtain ⟨h, ρ, rfl, R, q⟩ := q
    obtain ⟨ps, e, q⟩ := q [] h R (Gr.refl _) trivial
    cases ps with
    | nil => exact q
    | cons p ps => cases e
  | (f, g) :: r, σ, H, Q, q => by
    refine tX_mono (fun x H1 q1 => ?_) (acons_of q)
    refine tX_mono (fun y H2 q2 => ?_) (acons_of q1)
    refine pairs_of r σ H2 _ (tXa_mono (fun vs H3 q3 => ?_) q2)
    obtain ⟨ps, e, q3⟩ := q3
    cases ps with
    | nil => cases e
    | cons p ps =>
      obtain ⟨a, b⟩ := p
      cases e
      exact ⟨ps, rfl, q3⟩
def dispK : List Rv → Option (List (Key × PyData))
  | [] => some []
  | a :: .v d :: rs => match a.dat.bind keyD, dispK rs with
    | some k, some m => some ((k, d) :: m)
    | _, _ => none
  | _ => none
def mergeD (m more : List (Key × PyData)) : List (Key × PyData) := more.foldl (fun acc kv => setK acc kv.1 kv.2) m
def dispF (r : AF) : EF := fun ρ => (r ρ).bind fun rs => match dispK rs with
  | some m => if m.length ≤ 15 then .ok (.ok (mergeD [] m)) else .bad
  | none => .bad
theorem disp_vals {h : Hs} (c : Ch h) : ∀ {rs : List Rv} {vs : List V} {m : List (Key × PyData)}, dispK rs = some m → RvsOk K h vs rs → ∃ kvs : List (Key × V), vs = flatV (kvs.map fun kv => (kV kv.1, kv.2)) ∧ KvD K h.G kvs m
  | [], [], m, e, _ => by
    cases e
    exact ⟨[], rfl, .nil⟩
  | [], _ :: _, _, _, q => q.elim
  | [_], _, _, e, _ => by cases e
  | a :: b :: rs, vs, m, e, q => by
    unfold dispK at e
    split at e
    · cases ‹_ = []›
    · rename_i a' d rs' e0
      injection e0 with e1 e2
      injection e2 with e2 e3
      subst e1 e2 e3
      split at e
      · rename_i k m' e1 e2
        cases e
        match vs, q with
        | x :: y :: vs, ⟨q1, q2, q3⟩ =>
          obtain ⟨kvs, e3, kd⟩ := disp_vals c e2 q3
          obtain ⟨dk, ed, ek⟩ := Option.bind_eq_some_iff.mp e1
          have hk := keyD_v ek ((q1.rv (H0 := h.H)).dp c ed)
          subst hk e3
          exact ⟨(k, y) :: kvs, rfl, .cons ⟨rfl, q2⟩ kd⟩
        | [_], ⟨_, q⟩ => exact q.elim
        | [], q => exact q.elim
      · cases e
    · cases e
theorem KvD.merge {G : Hp} : ∀ {more : List (Key × V)} {mored : List (Key × PyData)} {l : List (Key × V)} {m : List (Key × PyData)}, KvD K G more mored → KvD K G l m → KvD K G (mergeK l more) (mergeD m mored)
  | _, _, _, _, .nil, q => q
  | _, _, _, _, .cons (a := p) (b := p') e t, q => by
    have := q.set p.1 e.2
    rw [e.1] at this
    have r := KvD.merge t this
    show KvD K G (mergeK (putK _ p.1 p.2) _) _
    rw [e.1]
    exact r
/-- a new own dict is filled -/
theorem Rel.fill {h0 h2 : Hs} {ρ : Env} {σ : L2.St} {p : Addr} {o o' : HO} (R0 : Rel K h0 ρ σ) (n : h0.H p = none) (R : Rel K h2 ρ σ) (g : Gr (h0.newO p o) h2) : Rel K ⟨h2.G, h2.F, upd h2.H p o'⟩ ρ σ ∧ Gr h0 ⟨h2.G, h2.F, upd h2.H p o'⟩ ∧ h2.F p = none := by
  have hf : h2.F p = none := by
    cases e : h2.F p with
    | none => rfl
    | some u =>
      have := g.fn p u e (R0.ch.fN n)
      have h1 : (h0.newO p o).H p = some o := upd_same
      rw [h1] at this
      cases this
  have ne : ∀ a u, h0.H a = some u → a ≠ p := fun a u e z => by subst z; rw [n] at e; cases e
  have old : ∀ a u, h0.H a = some u → h2.H a = some u := fun a u e => g.x a u (by
    show upd h0.H p o a = some u
    rw [upd_ne (ne a u e)]
    exact e)
  refine ⟨⟨⟨R.ch.gf, Ex.mut R.ch.fh hf⟩, R.len, fun i s x e1 e2 => ?_, R.dis⟩, ⟨g.g, g.f, fun a u e => ?_, g.gn, fun a u e z => ?_⟩, hf⟩
  · have q := R.at_ i s x e1 e2
    cases s with
    | u => trivial
    | x a => exact q
    | v d => exact q
    | b d => exact q
    | o xs =>
      obtain ⟨l, vs, z, a, b, d⟩ := q
      subst z
      obtain ⟨⟨u, hu⟩, _⟩ := R0.ownH e1 rfl e2
      exact ⟨l, vs, rfl, (upd_ne (ne l u hu)).trans a, b, d⟩
    | k kvs =>
      obtain ⟨l, vs, z, a, b, d⟩ := q
      subst z
      obtain ⟨⟨u, hu⟩, _⟩ := R0.ownH e1 rfl e2
      exact ⟨l, vs, rfl, (upd_ne (ne l u hu)).trans a, b, d⟩
    | t kvs =>
      obtain ⟨l, vs, z, a, b, d⟩ := q
      subst z
      obtain ⟨⟨u, hu⟩, _⟩ := R0.ownH e1 rfl e2
      exact ⟨l, vs, rfl, (upd_ne (ne l u hu)).trans a, b, d⟩
  · show upd h2.H p o' a = some u
    rw [upd_ne (ne a u e)]
    exact old a u e
  · have := g.fn a u e z
    cases q : h0.H a with
    | none => rfl
    | some t =>
      have h1 : (h0.newO p o).H a = some t := by
        show upd h0.H p o a = some t
        rw [upd_ne (ne a t q)]
        exact q
      rw [h1] at this
      cases this
theorem xdisp {pos : Pos} {keys : List (Option Expr)} {values : List Expr} (fs : List (EF × EF)) (hp : PPs X pos keys values (fs.map fun f => (tX X.K W f.1, tX X.K W f.2))) (h0 : keys ≠ []) (hall : keys.all (·.isSome) = true := by rfl) (hl : keys.length = values.length := by rfl)
    (h15 : keys.length ≤ 15 := by decide) : PE X (.Dict keys values pos) (tX X.K W (dispF (flatA fs))) := by
  refine peTo (pe_disp hp hall hl h0 h15) fun σ H Q q => ?_
  obtain ⟨h, ρ, rfl, R, q⟩ := tX_iff.mp q
  intro p hn
  have R1 := R.newO (o := .dK []) hn
  refine pairs_of fs σ _ _ ⟨h.newO p (.dK []), ρ, rfl, R1, ?_⟩
  unfold dispF at q
  cases er : flatA fs ρ with
  | bad => rw [er] at q; exact q.elim
  | exc c e => rw [er] at q; exact fun h' R' g => q h' R' ((Gr.newO R.ch hn).trans g)
  | ok rs =>
    rw [er] at q
    have q : PE1 X.K W h ρ σ Q (match dispK rs with
      | some m => if m.length ≤ 15 then .ok (.ok (mergeD [] m)) else .bad
      | none => .bad) := q
    intro vs h2 R2 g ok
    split at q
    · rename_i m em
      split at q
      · rename_i hm
        obtain ⟨kvs, rfl, kd⟩ := disp_vals R2.ch em ok
        obtain ⟨R3, g3, hf⟩ := Rel.fill (o' := .dK (mergeK [] kvs)) R hn R2 g
        refine ⟨_, rfl, g.x p _ upd_same, kvs, rfl, by rw [kd.len]; exact hm, ?_⟩
        exact q (.ref p) _ R3 g3 ⟨p, mergeK [] kvs, rfl, hn, upd_same, hf, kd.merge .nil⟩
      · exact q.elim
    · exact q.elim
end
end Sq

/-! Data in order: min, sorted, <=, in, of nested data. -/
namespace Sq
open PySem PySem.Spec PyProof.Rows L2 PySem.W
theorem hu2_of {A : Around} {k : Nat} (hr : Room k A) : A.units + 80 < cLine := by have := hr.un; omega
/-! one of two ways -/
section
variable {X : Cx} {K : PySem.W.Frag} {W : WF}
theorem bin_alt {φ ψ : Rv → Rv → Er Rv} {f g : EF} (ρ : Env) : binF (alt φ ψ) f g ρ = binF φ f g ρ ∨ binF (alt φ ψ) f g ρ = binF ψ f g ρ := by
  unfold binF
  cases f ρ with
  | bad => exact .inl rfl
  | exc c p => exact .inl rfl
  | ok a =>
    show ((g ρ).bind fun b => alt φ ψ a b) = ((g ρ).bind fun b => φ a b) ∨ ((g ρ).bind fun b => alt φ ψ a b) = ((g ρ).bind fun b => ψ a b)
    cases g ρ with
    | bad => exact .inl rfl
    | exc c p => exact .inl rfl
    | ok b =>
      show alt φ ψ a b = φ a b ∨ alt φ ψ a b = ψ a b
      unfold Sq.alt
      cases φ a b with
      | ok r => exact .inl rfl
      | exc c p => exact .inl rfl
      | bad => exact .inr rfl
theorem tX_alt {φ ψ : Rv → Rv → Er Rv} {f g : EF} : ∀ σ H Q, tX K W (binF (alt φ ψ) f g) σ H Q → tX K W (binF φ f g) σ H Q ∨ tX K W (binF ψ f g) σ H Q := by
  intro σ H Q q
  obtain ⟨h, ρ, rfl, R, q⟩ := tX_iff.mp q
  rcases bin_alt (φ := φ) (ψ := ψ) (f := f) (g := g) ρ with e | e
  · rw [e] at q
    exact .inl (tX_mk R q)
  · rw [e] at q
    exact .inr (tX_mk R q)
theorem tXt_alt {φ ψ : Rv → Rv → Er Rv} {f g : EF} : ∀ σ H Q, tXt K W (tstF (binF (alt φ ψ) f g)) σ H Q → tXt K W (tstF (binF φ f g)) σ H Q ∨ tXt K W (tstF (binF ψ f g)) σ H Q := by
  intro σ H Q q
  obtain ⟨h, ρ, rfl, R, q⟩ := tXt_iff.mp q
  unfold tstF at q
  rcases bin_alt (φ := φ) (ψ := ψ) (f := f) (g := g) ρ with e | e
  · rw [e] at q
    exact .inl (tXt_mk R q)
  · rw [e] at q
    exact .inr (tXt_mk R q)
theorem xaltE {φ ψ : Rv → Rv → Er Rv} {f g : EF} {e : Expr} (a : PE X e (tX X.K W (binF φ f g))) (b : PE X e (tX X.K W (binF ψ f g))) : PE X e (tX X.K W (binF (alt φ ψ) f g)) := peTo (peOr a b) tX_alt
theorem xaltT {φ ψ : Rv → Rv → Er Rv} {f g : EF} {e : Expr} (a : PT X e (tXt X.K W (tstF (binF φ f g)))) (b : PT X e (tXt X.K W (tstF (binF ψ f g)))) : PT X e (tXt X.K W (tstF (binF (alt φ ψ) f g))) := ptTo (ptOr a b) tXt_alt
def alt1 (φ ψ : Rv → Er Rv) : Rv → Er Rv := fun a => match φ a with
  | .bad => ψ a
  | q => q
theorem un_alt {φ ψ : Rv → Er Rv} {f : EF} (ρ : Env) : unF (alt1 φ ψ) f ρ = unF φ f ρ ∨ unF (alt1 φ ψ) f ρ = unF ψ f ρ := by
  unfold unF
  cases f ρ with
  | bad => exact .inl rfl
  | exc c p => exact .inl rfl
  | ok a =>
    show alt1 φ ψ a = φ a ∨ alt1 φ ψ a = ψ a
    unfold alt1
    cases φ a with
    | ok r => exact .inl rfl
    | exc c p => exact .inl rfl
    | bad => exact .inr rfl
theorem tX_alt1 {φ ψ : Rv → Er Rv} {f : EF} : ∀ σ H Q, tX K W (unF (alt1 φ ψ) f) σ H Q → tX K W (unF φ f) σ H Q ∨ tX K W (unF ψ f) σ H Q := by
  intro σ H Q q
  obtain ⟨h, ρ, rfl, R, q⟩ := tX_iff.mp q
  rcases un_alt (φ := φ) (ψ := ψ) (f := f) ρ with e | e
  · rw [e] at q
    exact .inl (tX_mk R q)
  · rw [e] at q
    exact .inr (tX_mk R q)
theorem xalt1 {φ ψ : Rv → Er Rv} {f : EF} {e : Expr} (a : PE X e (tX X.K W (unF φ f))) (b : PE X e (tX X.K W (unF ψ f))) : PE X e (tX X.K W (unF (alt1 φ ψ) f)) := peTo (peOr a b) tX_alt1
end
/-! lists seen -/
def Rv.listD : Rv → Option (List D)
  | .w xs => some xs
  | .o xs => some xs
  | .v (.list xs) => some xs
  | _ => none
theorem RvOk.listD {K : PySem.W.Frag} {H0 : Hp} {h : Hs} {v : V} (c : Ch h) : ∀ {a : Rv} {xs : List D}, a.listD = some xs → RvOk K H0 h v a → ∃ l vs, v = .ref l ∧ SqL K h.H l vs ∧ DpAll K h.G vs xs
  | .w _, _, e, ⟨l, vs, e1, x, y⟩ => by cases e; exact ⟨l, vs, e1, .inl (.inl x), y⟩
  | .o _, _, e, ⟨l, vs, e1, n, x, f, y⟩ => by cases e; exact ⟨l, vs, e1, .inl (.inl x), y⟩
  | .v (.list _), _, e, ok => by
    cases e
    obtain ⟨l, vs, e1, x, y⟩ := dp_lst ok
    exact ⟨l, vs, e1, ex_l c.gh x, y⟩
def nnB : D → Bool
  | .none => false
  | _ => true
theorem nnB_ne {d : D} (h : nnB d = true) : d ≠ .none := fun e => by subst e; exact absurd h (by decide)
def alikeB (ds : List D) : Bool := ds.all fun x => ds.all fun y => PySem.W.alike x y && nnB x
theorem alikeB_all {ds : List D} (h : alikeB ds = true) : PySem.W.AlikeAll ds := by
  unfold alikeB at h
  rw [List.all_eq_true] at h
  have h2 : ∀ x ∈ ds, ∀ y ∈ ds, PySem.W.alike x y = true ∧ x ≠ .none := fun x hx y hy => by
    have := List.all_eq_true.mp (h x hx) y hy
    rw [Bool.and_eq_true] at this
    exact ⟨this.1, nnB_ne this.2⟩
  exact ⟨fun x hx y hy => (h2 x hx y hy).1, fun x hx => (h2 x hx x hx).2⟩
theorem minD_mem (x : D) : ∀ (xs : List D), PySem.W.minD x xs ∈ x :: xs := by
  intro xs
  unfold PySem.W.minD
  induction xs generalizing x with
  | nil => exact List.mem_cons_self
  | cons y ys ih =>
    rw [List.foldl_cons]
    rcases List.mem_cons.mp (ih (if PySem.W.dataLt y x = true then y else x)) with e | e
    · rw [e]
      by_cases q : PySem.W.dataLt y x = true
      · rw [if_pos q]; exact List.mem_cons_of_mem _ List.mem_cons_self
      · rw [if_neg q]; exact List.mem_cons_self
    · exact List.mem_cons_of_mem _ (List.mem_cons_of_mem _ e)
theorem Vals.getV : ∀ {xs : List V} {us : List Value} {i : Nat} {u : Value}, Vals xs us → us[i]? = some u → ∃ x, xs[i]? = some x ∧ RelV x u := fun {xs us i u} r e => by
  cases hx : xs[i]? with
  | none =>
    have := Vals.none_of r hx
    rw [e] at this
    cases this
  | some x =>
    obtain ⟨u', e', q⟩ := Vals.get r hx
    rw [e] at e'
    cases e'
    exact ⟨x, rfl, q⟩
section
variable {X : Cx}
/-! min(xs) -/
def rMinDt (K : PySem.W.Frag) : List V → Hp → VK → Prop := fun vs H Q => ∃ (a : Addr) (xs : List V) (d : D) (ds : List D), vs = [V.ref a] ∧ SqL K H a xs ∧ DpAll K H xs (d :: ds) ∧ PySem.W.AlikeAll (d :: ds) ∧ PyData.depthAll (d :: ds) ≤ 60 ∧
  ∀ (i : Nat) (x : V) (e : D), xs[i]? = some x → (d :: ds)[i]? = some e → e = PySem.W.minD d ds → Q x H
theorem cr_minDt (hc : X.calm = true) (hu : X.A.units + 80 < cLine) : CallR X (.builtin "min") (rMinDt X.K) := by
  intro pins s σ H vs us Q I r h
  obtain ⟨a, xs, d, ds, rfl, hs, hd, hal, hdp, q⟩ := h
  obtain ⟨its, rv, hl, _⟩ := I.list hs
  rw [Vals.ref1 r]
  obtain ⟨as, hr⟩ := Dp.readsAll I _ _ its hd rv
  refine PySem.W.min_list_data (I.ok.hd hc) hl.isList (by simpa using hr) hal (by omega) fun i v h' tk bs hv hR hk => ?_
  have hv' : its[i]? = some v := by simpa using hv
  obtain ⟨x, hx, rx⟩ := Vals.getV rv hv'
  obtain ⟨e, he, hxe⟩ := DpAll.getV hd hx
  obtain ⟨as1, r1⟩ := Dp.reads I e x v hxe rx
  have hee := PySem.W.alike_unique e _ v _ _ (hal.1 e (List.mem_of_getElem? he) _ (minD_mem d ds)) (PySem.W.reads_keeps hk r1) hR
  exact ⟨x, H, I.kept hk, rx, q i x e hx he hee⟩
def minDR (a : Rv) : Er Rv := match a.listD with
  | some (d :: ds) => if alikeB (d :: ds) = true ∧ PyData.depthAll (d :: ds) ≤ 60 then .ok (.v (PySem.W.minD d ds)) else .bad
  | _ => .bad
variable {W : WF} {a : Expr} {f : EF} {p pos : Pos}
theorem xminD (hc : X.calm = true) (hu : X.A.units + 80 < cLine) (hg : Gl X "min") (hm : X.mg "min" = none) (ha : PE X a (tX X.K W f)) (hs : starEach [a] X.env = (false, eval a X.env) :: starEach [] X.env := by rfl) : PE X (.Call (.Name "min" p) [a] [] pos) (tX X.K W (unF minDR f)) := by
  refine peTo (pe_callB (cr_minDt hc hu) hg hm boot_min (pa_cons ha pa_nil hs) (he := hs)) (c1_of fun h0 h ρ σ x a Q R0 R g ok q => ?_)
  unfold minDR at q
  split at q
  · rename_i d ds e
    split at q
    · rename_i hc2
      obtain ⟨l, vs, rfl, s, da⟩ := ok.listD R.ch e
      refine ⟨l, vs, d, ds, rfl, s, ex_dpa R.ch.gh da, alikeB_all hc2.1, hc2.2, fun i x e hx he hee => ?_⟩
      obtain ⟨e', he', hd⟩ := DpAll.getV da hx
      rw [he] at he'
      cases he'
      subst hee
      exact q.now R hd
    · exact q.elim
  · exact q.elim
def minA : Rv → Er Rv := alt1 minR minDR
theorem xminA (hc : X.calm = true) (hu : X.A.units + 80 < cLine) (hg : Gl X "min") (hm : X.mg "min" = none) (ha : PE X a (tX X.K W f)) (hs : starEach [a] X.env = (false, eval a X.env) :: starEach [] X.env := by rfl) : PE X (.Call (.Name "min" p) [a] [] pos) (tX X.K W (unF minA f)) :=
  xalt1 (xmin1 hc hg hm ha hs) (xminD hc hu hg hm ha hs)
/-! sorted(xs), items of one kind -/
abbrev VD := V × D
theorem dpa_pairs {K : PySem.W.Frag} {H : Hp} : ∀ {zs : List VD}, (∀ z ∈ zs, Dp K H z.1 z.2) → DpAll K H (zs.map (·.1)) (zs.map (·.2))
  | [], _ => .nil
  | z :: zs, h => .cons (h z List.mem_cons_self) (dpa_pairs fun y hy => h y (List.mem_cons_of_mem _ hy))
theorem dpa_zip {K : PySem.W.Frag} {H : Hp} : ∀ {xs : List V} {ds : List D}, DpAll K H xs ds → (∀ z ∈ xs.zip ds, Dp K H z.1 z.2) ∧ (xs.zip ds).map (·.1) = xs ∧ (xs.zip ds).map (·.2) = ds
  | _, _, .nil => ⟨fun _ h => by simp at h, rfl, rfl⟩
  | _, _, .cons h t => by
    obtain ⟨a, b, c⟩ := dpa_zip t
    refine ⟨fun z hz => ?_, by simp [b], by simp [c]⟩
    rw [List.zip_cons_cons] at hz
    rcases List.mem_cons.mp hz with e | e
    · subst e; exact h
    · exact a z e
def rSortDt (K : PySem.W.Frag) : List V → Hp → VK → Prop := fun vs H Q => ∃ (a : Addr) (xs : List V) (ds : List D), vs = [V.ref a] ∧ SqL K H a xs ∧ DpAll K H xs ds ∧ PySem.W.AllAlike ds ∧ PySem.W.Sortable ds ∧ PyData.depthAll ds ≤ 60 ∧
  ∀ p, H p = none → Q (.ref p) (upd H p (.lst (((xs.zip ds).mergeSort (PySem.W.dataLe false fun z : VD => z.2)).map (·.1))))
theorem depth_mem {d : D} : ∀ {ds : List D}, d ∈ ds → d.depth ≤ PyData.depthAll ds
  | [], h => by cases h
  | e :: ds, h => by
    rw [PyData.depthAll]
    rcases List.mem_cons.mp h with q | q
    · subst q; exact Nat.le_max_left _ _
    · exact Nat.le_trans (depth_mem q) (Nat.le_max_right _ _)
theorem each_zip {h : Heap} {pins : List (Addr × Obj)} {σ : L2.St} {H : Hp} {s : Shared} (I : Inv X pins σ H s) : ∀ {xs : List V} {its : List Value} {ds : List D}, Vals xs its → DpAll X.K H xs ds → EachIs (fun v (z : VD) => RelV z.1 v) its (xs.zip ds) ∧ EachIs (fun v (z : VD) => ∃ as, Reads s.heap v z.2 as) its (xs.zip ds)
  | _, _, _, .nil, .nil => ⟨.nil, .nil⟩
  | _, _, _, .cons r t, .cons h u => by
    obtain ⟨a, b⟩ := each_zip (h := s.heap) I t u
    exact ⟨.cons r a, .cons (Dp.reads I _ _ _ h r) b⟩
theorem vals_each : ∀ {out : List Value} {zs : List VD}, EachIs (fun v (z : VD) => RelV z.1 v) out zs → Vals (zs.map (·.1)) out
  | _, _, .nil => .nil
  | _, _, .cons r t => .cons r (vals_each t)
theorem cr_sortDt (hu : X.A.units + 80 < cLine) : CallR X (.builtin "sorted") (rSortDt X.K) := by
  intro pins s σ H vs us Q I r h
  obtain ⟨a, xs, ds, rfl, hs, hd, hal, hso, hdp, q⟩ := h
  obtain ⟨its, rv, hl, hz⟩ := I.list hs
  rw [Vals.ref1 r]
  obtain ⟨e1, e2⟩ := each_zip (h := s.heap) I rv hd
  obtain ⟨z1, z2, z3⟩ := dpa_zip hd
  have hlen : (xs.zip ds).length = xs.length := by rw [← List.length_map (f := (·.1)), z2]
  refine PySem.W.sorted_data (β := VD) (enc := (·.2)) hl.isList e1 e2 (by rw [z3]; exact hal) (by rw [z3]; exact hso) (by rw [hlen]; exact hz) (fun b hb => ?_) fun out hol ho => ?_
  · have := depth_mem (d := b.2) (ds := ds) (by rw [← z3]; exact List.mem_map_of_mem hb)
    omega
  · obtain ⟨ep, he'⟩ := PyProof.Rows.sortedAll_at s.heap its out.toArray
    have hv := vals_each ho
    refine ⟨.ref _, upd H (s.heap.objs.size + 1) (.lst (((xs.zip ds).mergeSort (PySem.W.dataLe false fun z : VD => z.2)).map (·.1))), I.laid (t' := s.toks) (fun _ _ => PyProof.Rows.sortedAll_old) (Nat.le_succ _) ⟨?_, out, ep, hv, by simpa using he'⟩, rfl, q _ (I.hok.fresh (Nat.le_succ _))⟩
    rw [List.length_map, (List.mergeSort_perm _ _).length_eq, hlen]
    exact hz
def sortD (ds : List D) : List D := ds.mergeSort (PySem.W.dataLe false fun d : D => d)
def listsB (ds : List D) : Bool := ds.all fun d => match d with | .list _ => true | _ => false
def tupsB (ds : List D) : Bool := ds.all fun d => match d with | .tuple (_ :: _) => true | _ => false
theorem sortable_lists {ds : List D} (h : listsB ds = true) : PySem.W.Sortable ds := .inr fun d hd => by
  have := List.all_eq_true.mp h d hd
  cases d <;> simp at this ⊢
theorem sortable_tups {ds : List D} (h : tupsB ds = true) : PySem.W.Sortable ds := .inl fun d hd => by
  have := List.all_eq_true.mp h d hd
  cases d with
  | tuple xs =>
    cases xs with
    | nil => simp at this
    | cons x r => exact ⟨x, r, rfl⟩
  | _ => simp at this
def sortDR (a : Rv) : Er Rv := match a.listD with
  | some ds => if alikeB ds = true ∧ PyData.depthAll ds ≤ 60 ∧ (listsB ds || tupsB ds) = true then .ok (.o (sortD ds)) else .bad
  | _ => .bad
theorem xsortedD (hu : X.A.units + 80 < cLine) (hg : Gl X "sorted") (hm : X.mg "sorted" = none) (ha : PE X a (tX X.K W f)) (hs : starEach [a] X.env = (false, eval a X.env) :: starEach [] X.env := by rfl) : PE X (.Call (.Name "sorted" p) [a] [] pos) (tX X.K W (unF sortDR f)) := by
  refine peTo (pe_callB (cr_sortDt hu) hg hm boot_sorted (pa_cons ha pa_nil hs) (he := hs)) (c1_of fun h0 h ρ σ x a Q R0 R g ok q => ?_)
  unfold sortDR at q
  split at q
  · rename_i ds e
    split at q
    · rename_i hc2
      obtain ⟨hc2, hc3, hc4⟩ := hc2
      obtain ⟨l, vs, rfl, s, da⟩ := ok.listD R.ch e
      have hal := alikeB_all hc2
      refine ⟨l, vs, ds, rfl, s, ex_dpa R.ch.gh da, fun x hx y hy => hal.1 x hx y hy, ?_, hc3, fun p hp => ?_⟩
      · rw [Bool.or_eq_true] at hc4
        rcases hc4 with z | z
        · exact sortable_lists z
        · exact sortable_tups z
      · obtain ⟨z1, z2, z3⟩ := dpa_zip da
        have e2 : sortD ds = ((vs.zip ds).mergeSort (PySem.W.dataLe false fun z : VD => z.2)).map (·.2) := by
          unfold sortD
          conv => lhs; rw [← z3]
          exact (List.map_mergeSort (f := fun z : VD => z.2) fun a _ b _ => rfl).symm
        refine PE1.newL (xs := sortD ds) q R ?_ hp
        rw [e2]
        exact dpa_pairs fun z hz => z1 z ((List.mergeSort_perm _ _).mem_iff.mp hz)
    · exact q.elim
  · exact q.elim
def sortA : Rv → Er Rv := alt1 sortR sortDR
theorem xsortedA (hu : X.A.units + 80 < cLine) (hg : Gl X "sorted") (hm : X.mg "sorted" = none) (ha : PE X a (tX X.K W f)) (hs : starEach [a] X.env = (false, eval a X.env) :: starEach [] X.env := by rfl) : PE X (.Call (.Name "sorted" p) [a] [] pos) (tX X.K W (unF sortA f)) :=
  xalt1 (xsorted hg hm ha hs) (xsortedD hu hg hm ha hs)
/-! x in xs, nested data -/
variable {b : Expr} {g : EF}
def inDeep (n : Bool) (a b : Rv) : Er Rv := match a.dat, b.listD with
  | some x, some ys => if SeqAt.shaped x = true ∧ SeqAt.shaped (.list ys) = true then .ok (.v (.bool (if n then !(ys.any fun z => PyData.eqv z x) else ys.any fun z => PyData.eqv z x))) else .bad
  | _, _ => .bad
theorem listD_dp {K : PySem.W.Frag} {H0 : Hp} {h : Hs} {v : V} (c : Ch h) {a : Rv} {xs : List D} (e : a.listD = some xs) (ok : RvOk K H0 h v a) : Dp K h.H v (.list xs) := by
  obtain ⟨l, vs, rfl, s, da⟩ := ok.listD c e
  exact .lst s (ex_dpa c.gh da)
theorem ok_inDeep {K : PySem.W.Frag} : OpOk K W (inDeep false) (rInD K) := by
  intro h0 h ρ σ x y a b Q R0 R g oka okb q
  unfold inDeep at q
  split at q
  · rename_i d ys ea eb
    split at q
    · rename_i hc
      exact ⟨d, ys, oka.dp R.ch ea, listD_dp R.ch eb okb, hc.1, hc.2, q.now R (.bl _)⟩
    · exact q.elim
  · exact q.elim
theorem ok_notInDeep {K : PySem.W.Frag} : OpOk K W (inDeep true) (rNotInD K) := by
  intro h0 h ρ σ x y a b Q R0 R g oka okb q
  unfold inDeep at q
  split at q
  · rename_i d ys ea eb
    split at q
    · rename_i hc
      exact ⟨d, ys, oka.dp R.ch ea, listD_dp R.ch eb okb, hc.1, hc.2, q.now R (.bl _)⟩
    · exact q.elim
  · exact q.elim
def inA (n : Bool) : Rv → Rv → Er Rv := alt (inR n) (inDeep n)
theorem hu65 {n : Nat} (h : n + 80 < cLine) : n + 65 < cLine := by omega
theorem hu01 {n : Nat} (h : n + 80 < cLine) : n + 1 < cLine := by omega
theorem xinA (hu : X.A.units + 80 < cLine) (ha : PE X a (tX X.K W f)) (hb : PE X b (tX X.K W g)) (hm : behindInMarks .In b = false := by first | exact nobehind _ (by decide) (by decide) | rfl) : PE X (.Compare a [.In] [b] pos) (tX X.K W (binF (inA false) f g)) :=
  xaltE (xin (hu01 hu) ha hb hm) (xcmp (op_inD (hu65 hu)) ok_inDeep ha hb hm)
theorem xnotinA (hu : X.A.units + 80 < cLine) (ha : PE X a (tX X.K W f)) (hb : PE X b (tX X.K W g)) (hm : behindInMarks .NotIn b = false := by first | exact nobehind _ (by decide) (by decide) | rfl) : PE X (.Compare a [.NotIn] [b] pos) (tX X.K W (binF (inA true) f g)) :=
  xaltE (xnotin (hu01 hu) ha hb hm) (xcmp (op_notInD (hu65 hu)) ok_notInDeep ha hb hm)
theorem xtinA (hu : X.A.units + 80 < cLine) (ha : PE X a (tX X.K W f)) (hb : PE X b (tX X.K W g)) (hm : behindInMarks .In b = false := by first | exact nobehind _ (by decide) (by decide) | rfl) : PT X (.Compare a [.In] [b] pos) (tXt X.K W (tstF (binF (inA false) f g))) :=
  xaltT (xtin (hu01 hu) ha hb hm) (xtcmp (op_inD (hu65 hu)) ok_inDeep ha hb hm)
theorem xtnotinA (hu : X.A.units + 80 < cLine) (ha : PE X a (tX X.K W f)) (hb : PE X b (tX X.K W g)) (hm : behindInMarks .NotIn b = false := by first | exact nobehind _ (by decide) (by decide) | rfl) : PT X (.Compare a [.NotIn] [b] pos) (tXt X.K W (tstF (binF (inA true) f g))) :=
  xaltT (xtnotin (hu01 hu) ha hb hm) (xtcmp (op_notInD (hu65 hu)) ok_notInDeep ha hb hm)
/-! <=, < of nested data -/
def rLeDt (K : PySem.W.Frag) : R2 := fun x y H Q => ∃ d e, Dp K H x d ∧ Dp K H y e ∧ PySem.W.alike d e = true ∧ d ≠ .none ∧ d.depth ≤ 60 ∧ Q (.bl (!PySem.W.dataLt e d)) H
def rLtDt (K : PySem.W.Frag) : R2 := fun x y H Q => ∃ d e, Dp K H x d ∧ Dp K H y e ∧ PySem.W.alike d e = true ∧ d ≠ .none ∧ d.depth ≤ 60 ∧ Q (.bl (PySem.W.dataLt d e)) H
theorem op_leDt (hu : X.A.units + 80 < cLine) : OpR X (compareOp .LtE) (rLeDt X.K) := by
  intro pins s σ H x y v u Q I rx ry h
  obtain ⟨d, e, hd, he, hal, hn, hdp, q⟩ := h
  obtain ⟨as, r1⟩ := Dp.reads I d x v hd rx
  obtain ⟨bs, r2⟩ := Dp.reads I e y u he ry
  have hm : min d.depth e.depth ≤ d.depth := Nat.min_le_left _ _
  exact PySem.W.rcLe_alike d e X.A s v u as bs r1 r2 hal hn (by omega) _ _ _ _ ⟨.bl _, H, I, rfl, q⟩
theorem op_ltDt (hu : X.A.units + 80 < cLine) : OpR X (compareOp .Lt) (rLtDt X.K) := by
  intro pins s σ H x y v u Q I rx ry h
  obtain ⟨d, e, hd, he, hal, hn, hdp, q⟩ := h
  obtain ⟨as, r1⟩ := Dp.reads I d x v hd rx
  obtain ⟨bs, r2⟩ := Dp.reads I e y u he ry
  have hm : min d.depth e.depth ≤ d.depth := Nat.min_le_left _ _
  exact PySem.W.rcLt_alike d e X.A s v u as bs r1 r2 hal hn (by omega) _ _ _ _ ⟨.bl _, H, I, rfl, q⟩
def leDt : Rv → Rv → Er Rv := fun a b => match a.dat, b.dat with
  | some x, some y => if PySem.W.alike x y = true ∧ nnB x = true ∧ x.depth ≤ 60 then .ok (.v (.bool (!PySem.W.dataLt y x))) else .bad
  | _, _ => .bad
def ltDt : Rv → Rv → Er Rv := fun a b => match a.dat, b.dat with
  | some x, some y => if PySem.W.alike x y = true ∧ nnB x = true ∧ x.depth ≤ 60 then .ok (.v (.bool (PySem.W.dataLt x y))) else .bad
  | _, _ => .bad
theorem ok_leDt {K : PySem.W.Frag} : OpOk K W leDt (rLeDt K) := by
  intro h0 h ρ σ x y a b Q R0 R g oka okb q
  unfold leDt at q
  split at q
  · rename_i d e ea eb
    split at q
    · rename_i hc
      exact ⟨d, e, oka.dp R.ch ea, okb.dp R.ch eb, hc.1, nnB_ne hc.2.1, hc.2.2, q.now R (.bl _)⟩
    · exact q.elim
  · exact q.elim
theorem ok_ltDt {K : PySem.W.Frag} : OpOk K W ltDt (rLtDt K) := by
  intro h0 h ρ σ x y a b Q R0 R g oka okb q
  unfold ltDt at q
  split at q
  · rename_i d e ea eb
    split at q
    · rename_i hc
      exact ⟨d, e, oka.dp R.ch ea, okb.dp R.ch eb, hc.1, nnB_ne hc.2.1, hc.2.2, q.now R (.bl _)⟩
    · exact q.elim
  · exact q.elim
def leA : Rv → Rv → Er Rv := alt leR leDt
def ltA : Rv → Rv → Er Rv := alt ltR ltDt
theorem xleA (hu : X.A.units + 80 < cLine) (ha : PE X a (tX X.K W f)) (hb : PE X b (tX X.K W g)) : PE X (.Compare a [.LtE] [b] pos) (tX X.K W (binF leA f g)) := xaltE (xle ha hb) (xcmp (op_leDt hu) ok_leDt ha hb (nomark _))
theorem xltA (hu : X.A.units + 80 < cLine) (ha : PE X a (tX X.K W f)) (hb : PE X b (tX X.K W g)) : PE X (.Compare a [.Lt] [b] pos) (tX X.K W (binF ltA f g)) := xaltE (xlt ha hb) (xcmp (op_ltDt hu) ok_ltDt ha hb (nomark _))
theorem xtleA (hu : X.A.units + 80 < cLine) (ha : PE X a (tX X.K W f)) (hb : PE X b (tX X.K W g)) : PT X (.Compare a [.LtE] [b] pos) (tXt X.K W (tstF (binF leA f g))) := xaltT (xtle ha hb) (xtcmp (op_leDt hu) ok_leDt ha hb (nomark _))
theorem xtltA (hu : X.A.units + 80 < cLine) (ha : PE X a (tX X.K W f)) (hb : PE X b (tX X.K W g)) : PT X (.Compare a [.Lt] [b] pos) (tXt X.K W (tstF (binF ltA f g))) := xaltT (xtlt ha hb) (xtcmp (op_ltDt hu) ok_ltDt ha hb (nomark _))
end
end Sq

/-! sorted(t), a tuple of whole numbers; pop as a row of its own. -/
namespace Sq
open PySem PySem.Spec PyProof.Rows L2
section
variable {prog : Program} {w : World} {A : Around} {E : Value → Shared → Prop} {s : Shared}
/-- the items of a tuple, as a new list -/
theorem gather_tup {t : Addr} {vs : List Value} {Q : List Value → Shared → Prop} (ht : s.heap.IsTuple t vs.toArray) (hz : vs.length ≤ sizeLine)
    (q : Q vs { s with heap := (s.heap.push (seqObj "list" #[] 0)).update s.heap.objs.size (Obj.mapSeq (· ++ vs.toArray)) }) : wpAny (model prog w) A (collect (.ref t)) Q E s := by
  obtain ⟨ob, e1, e2, n, e3⟩ := id ht
  have old : (s.heap.push (seqObj "list" #[] 0)).get? t = some ob := Heap.get?_push_of_some _ e1
  have new : (s.heap.push (seqObj "list" #[] 0)).get? s.heap.objs.size = some (seqObj "list" #[] 0) := Heap.get?_push_size _ rfl
  have hty : (Value.type "tuple" == Value.type "tuple") = true := by rfl
  have hlen : (#[] ++ vs.toArray).size ≤ sizeLine + 1 := by
    rw [Array.size_append, List.size_toArray]
    show 0 + vs.length ≤ _
    omega
  unfold collect
  refine wpAny_bind (wpAny_runValue (codeAny_builtin entry_proto_collect' (show wpAny (model prog w) _ (do again (.builtin "list.__iadd__" ⟨[← newList [], .ref t], []⟩)) _ _ s from ?_)))
  refine wpAny_bind (wpAny_newList (wpAny_pure ⟨Code.quiet_builtin _ (by decide +kernel), codeAny_builtin entry_list_iadd' (show wpAny (model prog w) _ (Builtin.List.listExtendWith (.ref s.heap.objs.size) (.ref t) (.ref s.heap.objs.size)) _ _ { s with heap := s.heap.push (seqObj "list" #[] 0) } from ?_)⟩))
  unfold Builtin.List.listExtendWith
  refine wpAny_bind (wpAny_typeOf (T := "tuple") ⟨ob, old, e2⟩ ?_)
  rw [if_pos (by rw [hty, Bool.or_true])]
  refine wpAny_bind (listItems_at old e3 (wpAny_bind (listItems_at (xs := #[]) (n := 0) new rfl ?_)))
  rw [if_neg (by simp)]
  refine wpAny_bind (listUpdate_at (xs := #[]) (n := 0) new rfl (wpAny_pure ?_) (Nat.zero_le _) hlen)
  refine (show wpAny (model prog w) A (do
      let ob ← load s.heap.objs.size
      match ob.data with
      | .seq ys _ => pure ys.toList
      | _ => unsupported "internal:collect") Q E { s with heap := (s.heap.push (seqObj "list" #[] 0)).update s.heap.objs.size (Obj.mapSeq (· ++ vs.toArray)) } from ?_)
  refine wpAny_bind (wpAny_load (get?_update_seq new _) (show wpAny (model prog w) A (pure ((#[] : Array Value) ++ vs.toArray).toList) Q E _ from ?_))
  rw [show ((#[] : Array Value) ++ vs.toArray).toList = vs by simp]
  exact wpAny_pure q
end
section
variable {X : Cx}
/-- sorted(t), a tuple of ints -/
def rSortTI (K : PySem.W.Frag) : List V → Hp → VK → Prop := fun vs H Q => ∃ (a : Addr) (ns : List Int), vs = [V.ref a] ∧ SqT K H a (ns.map V.int) ∧ ∀ (ns' : List Int) (p : Addr), ns'.Perm ns → ns'.Pairwise (· ≤ ·) → H p = none → Q (.ref p) (upd H p (.lst (ns'.map V.int)))
theorem cr_sortTI : CallR X (.builtin "sorted") (rSortTI X.K) := by
  intro pins s σ H vs us Q I r h
  obtain ⟨t, ns, rfl, hs, q⟩ := h
  obtain ⟨its, rv, hT, hz⟩ := I.tuple hs
  have hi := rv.ints
  have hlen : its.length ≤ sizeLine := by rw [← rv.length]; exact hz
  rw [Vals.ref1 r]
  refine Calls.call_function_entry kind_sorted plain_sorted entry_sorted (args_sorted1 _) (show wpAny (model X.prog X.w) _ (Builtin.«sorted» ⟨[.ref t], []⟩) _ _ s from ?_)
  unfold Builtin.«sorted»
  refine wpAny_bind (m := checkCount "sorted" 1 1 _) (wpAny_pure (wpAny_bind (gather_tup hT hlen (wpAny_bind (wpAny_newList ?_ hlen)))))
  have hsz : ((s.heap.push (seqObj "list" #[] 0)).update s.heap.objs.size (Obj.mapSeq (· ++ its.toArray))).objs.size = s.heap.objs.size + 1 := by rw [Heap.size_update, size_push']
  have hoL : (((s.heap.push (seqObj "list" #[] 0)).update s.heap.objs.size (Obj.mapSeq (· ++ its.toArray))).push (seqObj "list" its.toArray 0)).get? (s.heap.objs.size + 1) = some (seqObj "list" its.toArray 0) := hsz ▸ Heap.get?_push_size _ rfl
  refine (show wpAny _ _ _ _ _ { s with heap := ((s.heap.push (seqObj "list" #[] 0)).update s.heap.objs.size (Obj.mapSeq (· ++ its.toArray))).push (seqObj "list" its.toArray 0) } from ?_)
  rw [hsz]
  refine wpAny_bind (wpAny_holding (wpAny_call_entry slot_list_sort ⟨_, hoL, rfl⟩ entry_list_sort (SrtO.list_sort_ord SrtO.swo_int hoL hlen (fun h2 => SrtO.ints_sortable hi h2) fun out h1 h2 => ⟨_, rfl, wpAny_pure ⟨_, rfl, ?_⟩⟩) (args_list_sort _)))
  obtain ⟨k1, k2, k3⟩ := SrtO.ints_out hi h1 h2
  obtain ⟨ep, he'⟩ := PyProof.Rows.sortedAll_at s.heap its out.toArray
  have hl2 : ((out.map SrtO.iv).map V.int).length ≤ sizeLine := by
    rw [List.length_map, k2.length_eq]
    rw [List.length_map] at hz
    exact hz
  have J := I.laid (a := s.heap.objs.size + 1) (o := .lst ((out.map SrtO.iv).map V.int)) (t' := s.toks) (h' := sortedAll s.heap its out.toArray) (fun _ _ => PyProof.Rows.sortedAll_old) (Nat.le_succ _) ⟨hl2, out, ep, vals_of_ints k1, he'⟩
  exact ⟨.ref _, _, J, rfl, q _ _ k2 k3 (I.hok.fresh (Nat.le_succ _))⟩
/-- the whole numbers of a tuple -/
def Rv.tupI : Rv → Option (List Int)
  | .v (.tuple ds) => dInts ds
  | _ => none
def sortTR (a : Rv) : Er Rv := match a.tupI with
  | some ns => .ok (.o ((srt ns).map .int))
  | none => .bad
variable {W : WF} {a : Expr} {f : EF} {p pos : Pos}
theorem xsortedT (hg : Gl X "sorted") (hm : X.mg "sorted" = none) (ha : PE X a (tX X.K W f)) (hs : starEach [a] X.env = (false, eval a X.env) :: starEach [] X.env := by rfl) : PE X (.Call (.Name "sorted" p) [a] [] pos) (tX X.K W (unF sortTR f)) := by
  refine peTo (pe_callB cr_sortTI hg hm boot_sorted (pa_cons ha pa_nil hs) (he := hs)) (c1_of fun h0 h ρ σ x a Q R0 R g ok q => ?_)
  unfold sortTR at q
  split at q
  · rename_i ns e
    unfold Rv.tupI at e
    split at e
    · rename_i ds
      obtain ⟨t, vs, rfl, s, d⟩ := dp_tup ok
      rw [dInts_v e d] at s
      refine ⟨t, ns, rfl, ex_t R.ch.gh s, fun ns' p h1 h2 hp => ?_⟩
      have e2 : ns' = srt ns := perm_sorted_eq (h1.trans (srt_perm ns).symm) h2 (srt_le ns)
      subst e2
      exact q.newL R (ints_all _) hp
    · cases e
  · exact q.elim
def sortB : Rv → Er Rv := alt1 sortR sortTR
theorem xsortedB (hg : Gl X "sorted") (hm : X.mg "sorted" = none) (ha : PE X a (tX X.K W f)) (hs : starEach [a] X.env = (false, eval a X.env) :: starEach [] X.env := by rfl) : PE X (.Call (.Name "sorted" p) [a] [] pos) (tX X.K W (unF sortB f)) :=
  xalt1 (xsorted hg hm ha hs) (xsortedT hg hm ha hs)
/-- a row of its own that changes an own list -/
def exprM (f : MF) : SF := fun ρ => thenM ρ (f ρ) fun _ ρ' => .next ρ'
theorem xexprM {e : Expr} {f : MF} {pos : Pos} (he : PE X e (tM X.K W f)) (hs : swapsWith e none pos.line X.env = pure false := by rfl) : PS X (.Expr e pos) (tS X.K W (exprM f)) := psTo (ps_expr he hs) fun D σ H ⟨h, ρ, e, R, q⟩ => by
  subst e
  exact ⟨h, ρ, rfl, R, q.thenM fun r ρ' v h' _ R' g' _ q' => q' σ h' R' (SG.refl _)⟩
end
end Sq

/-! A def of the law that is asked about the exception of a suite. -/
namespace Sq
open PySem PySem.Spec PyProof.Rows L2 L2H
/-- its answer, by the exception's class -/
structure FnE (P : Program) (w : World) (K : PySem.W.Frag) (mg : Str → Option Value) (base : Heap) (CX : CXT) (k : Nat) (f : Addr) (fd : FuncData) (x : Str) (D : Addr) (b : Bool) : Prop where
  run : ∀ (A : Around) (outer : List PySem.Env) (s : Shared) (H : Hp) (args : Args) (Q : VK) (E : XK) (a : Addr) (oe : Obj), RoomH k A → PinOk outer H s (a, oe) → Zc (.ref D) none oe → (∃ vs, oe.data = .fields vs) → Env0 P w K mg base A outer s H →
    BindsTo s fd args [(x, .ref a)] → Q (.bl b) H → codeAny (model P w) A (.call (.ref f) args) (CR CX outer P w H s Q E) s
section
variable {X : Cx} {i : Nat} {a D : Addr} {oe : Obj} {b c : Bool} {p pos px pT q : Pos} {e e1 e2 : Expr} {rest : List Expr}
theorem call_isP (hp : (a, oe) ∈ X.pn) (C : ExcC X.K D) (hz : Zc (.ref D) none oe) (hf : ∃ vs, oe.data = .fields vs) : CallR X (.builtin "isinstance") (rIsE X.K D a) := by
  intro pins s σ H xs us Q I r h
  obtain ⟨y, cv, bb, rfl, hcv, e, q⟩ := h
  obtain ⟨u1, u2, rfl, r1, r2⟩ := Vals.two r
  have e1 : u1 = .ref a := r1
  have e2 := hcv _ r2
  subst e1 e2
  have hget := (I.pin (a, oe) (List.mem_append_left _ hp)).1
  obtain ⟨vs, hv⟩ := hf
  have J : PySem.W.InstAt s.heap a oe D none := by
    cases oe with
    | mk oc od oda osl =>
      have h1 : oc = .ref D := hz.1
      have h2 : od = none := hz.2
      have h3 : oda = .fields vs := hv
      subst h1 h2 h3
      exact ⟨hget, rfl, rfl, trivial⟩
  exact PySem.W.kia_one (PySem.W.handS_kitx_exc C.hg C.hk C.hs C.hd C.ha C.hn C.ht C.hm) I.kIn J e (fun z => nomatch z) fun tk => ⟨.bl bb, H, I.kept (t' := tk) fun _ _ z => z, rfl, q⟩
theorem xisP {x y : Str} {cv : V} {cu : Value} (hp : (a, oe) ∈ X.pn) (C : ExcC X.K D) (hz : Zc (.ref D) none oe) (hf : ∃ vs, oe.data = .fields vs) (hg : Gl X "isinstance") (hm : X.mg "isinstance" = none) (he : PE X (.Name x px) (tVar i)) (hT : PE X (.Name y pT) (tC cv)) (hcv : ∀ u, RelV cv u → u = cu) (hk : PySem.W.kitOne X.K (.ref D) cu = some b)
    (hs : starEach [.Name x px, .Name y pT] X.env = (false, eval (.Name x px) X.env) :: starEach [.Name y pT] X.env := by rfl) (hs2 : starEach [.Name y pT] X.env = (false, eval (.Name y pT) X.env) :: starEach [] X.env := by rfl) :
    PE X (.Call (.Name "isinstance" p) [.Name x px, .Name y pT] [] pos) (tEc i a b) :=
  peTo (pe_callB (call_isP hp C hz hf) hg hm boot_isinstance (pa_cons he (pa_cons hT pa_nil hs2) hs) (he := hs) (hpl := by rw [hs2]; rfl)) fun σ H Q q => ⟨_, q.1, cv, cu, b, rfl, hcv, hk, q.2⟩
/-! tests, rows -/
def tEt (i : Nat) (a : Addr) (b : Bool) : TT := fun σ H Q => σ[i]? = some (some (.ref a)) ∧ Q b H
def tNx (i : Nat) (a : Addr) : TS := fun D σ H => σ[i]? = some (some (.ref a)) ∧ D.nx σ H
def tRt (i : Nat) (a : Addr) (b : Bool) : TS := fun D σ H => σ[i]? = some (some (.ref a)) ∧ D.rt (.bl b) H
theorem xTv {e : Expr} (h : PE X e (tEc i a b)) (he : ∀ whole, isTrue e X.env whole = (do let v ← whole; standAt e.pos; holding [v] (truthy v)) := by intro _; rfl) : PT X e (tEt i a b) := ptTo (pt_val h he) fun σ H Q q => ⟨q.1, b, rfl, q.2⟩
theorem xTor1 (h : PT X e (tEt i a b)) : PW X (.BoolOp .Or [e] pos) (tEt i a b) := pw_or1 h
theorem xTor (h1 : PT X e1 (tEt i a b)) (h2 : PW X (.BoolOp .Or (e2 :: rest) pos) (tEt i a c)) : PW X (.BoolOp .Or (e1 :: e2 :: rest) pos) (tEt i a (b || c)) := pwTo (pw_or h1 h2) fun σ H Q q => by
  refine ⟨q.1, ?_⟩
  cases b with
  | true => exact q.2
  | false => exact q
theorem xEifN {body : List Stmt} {t : TS} (h : PT X e (tEt i a false)) (hb : PSs X body t) : PS X (.If e body [] pos) (tNx i a) := psTo (ps_if h hb pss_nil) fun D σ H q => ⟨q.1, q.2⟩
theorem xEret (h : PE X e (tEc i a b)) : PS X (.Return (some e) pos) (tRt i a b) := psTo (ps_ret h) fun D σ H q => q
theorem xElast {s : Stmt} (h : PS X s (tRt i a b)) : PSs X [s] (tRt i a b) := pss_one h
theorem xEthen {s : Stmt} {r : List Stmt} (h1 : PS X s (tNx i a)) (h2 : PSs X r (tRt i a b)) : PSs X (s :: r) (tRt i a b) := pssTo (pss_cons h1 h2) fun D σ H q => ⟨q.1, q⟩
end
section
variable {P : Program} {w : World} {K : PySem.W.Frag} {mg : Str → Option Value} {base : Heap}
/-- the body settles it -/
theorem fnE_ok {x qual y : Str} {st : Stmt} {f : Addr} {fd : FuncData} {N : List Str} {k : Nat} {CX : CXT} {D : Addr} {b : Bool} (F : Fun K x qual st f fd) (S : FnScope N [y] (defScope st))
    (body : ∀ (cdv : Value) (A : Around) (outer : List PySem.Env) (s : Shared) (H : Hp) (E : XK) (a : Addr) (oe : Obj), Zc (.ref D) none oe → (∃ vs, oe.data = .fields vs) → PSs (cxH CX P w K mg base N qual (defScope st) f cdv A outer s H E (a, oe)) (defBody st) (tRt 0 a b)) :
    FnE P w K mg base CX (k + 1) f fd y D b := by
  obtain ⟨oc, od, kV, doc, pm, an, cdv, ct, osl, rfl, lk, hcd⟩ := F.ex
  refine ⟨fun A outer s H args Q E a oe hr hpin hz hf e0 hb hq => ?_⟩
  have KX : K.In s.heap := e0.mod.kin.keeps fun c o e => (e0.bs c o e).1
  have lim : s.heap.NoLimit := e0.mod.nolimit.keeps fun c o e => (e0.bs c o e).1
  have kinds : ∀ z ∈ [(y, Value.ref a)], (defScope st).names.lookup z.1 = some .local ∨ ((defScope st).names.lookup z.1 = some .cell ∧ ((cellsFrom (s.heap.objs.size + 1) (defScope st).names []).lookup z.1).isSome = true) := fun z hz => by
    have e : z = (y, Value.ref a) := by simpa using hz
    subst e
    exact (S.par y List.mem_cons_self).imp id fun k => ⟨k, PySem.W.cellsFrom_some _ _ _ (.inl k)⟩
  refine codeAny_call_function hr.depth (KX _ _ lk) rfl S.co S.gen rfl (PySem.W.codeRec_of KX hcd) (hb _ _ _ _ (wpAny_newFunctionEnv_cells S.kind kinds fun env he s1 lay => ?_))
  subst he
  refine ⟨lim.keeps lay.toInCall.keep, codeAny_func ?_⟩
  have rv : Vals [V.ref a] [Value.ref a] := .cons rfl .nil
  have I := inv_startH (CX := CX) (E := E) (ps := [y]) (us := [Value.ref a]) S hpin e0 rfl rv lay
  have h0 : (L2.start N [V.ref a])[0]? = some (some (V.ref a)) := rfl
  refine wpAny_mono ((body cdv A outer s H E a oe hz hf).run [] s1 (L2.start N [V.ref a]) H { nx := fun _ _ => False, rt := Q } I ⟨h0, hq⟩) (fun r s2 done => ?_) fun _ _ z => z
  cases r with
  | ret u =>
    obtain ⟨v, σ2, H2, J, ru, q2⟩ := done
    exact ⟨v, H2, J.os, J.bare, J.base, J.hok, ru, q2⟩
  | next =>
    obtain ⟨_, _, _, z⟩ := done
    exact z.elim
  | brk =>
    obtain ⟨_, _, _, z⟩ := done
    exact z.elim
  | cont =>
    obtain ⟨_, _, _, z⟩ := done
    exact z.elim
end
section
variable {X : Cx} {i k : Nat} {a D f : Addr} {oe : Obj} {pn : List (Addr × Obj)} {b : Bool} {p pos px : Pos} {fd : FuncData} {x y n : Str}
/-- it is asked in the suite -/
theorem xEcall (F : FnE X.prog X.w X.K X.mg X.base (L2.CX X.prog X.w) k f fd y D b) (hr : Room k X.A) (hz : Zc (.ref D) none oe) (hf : ∃ vs, oe.data = .fields vs) (hg : Gl (X.suite a ((a, oe) :: pn)) x) (hm : X.mg x = some (.ref f)) (hk : PySem.W.keepIn X.K (.ref f) = true) (hb : Binds X.K fd [y] [])
    (he : PE (X.suite a ((a, oe) :: pn)) (.Name n px) (tVar i)) (hdb : (x == ("__debug__" : Str)) = false := by decide) (hs : starEach [.Name n px] X.env = (false, eval (.Name n px) X.env) :: starEach [] X.env := by rfl) :
    PE (X.suite a ((a, oe) :: pn)) (.Call (.Name x p) [.Name n px] [] pos) (tEc i a b) := by
  refine ⟨fun pins s σ H Q I q => ?_⟩
  refine wpAny_Call_Name_kw (ld_glob I hg hm (PySem.W.callWith_K (h₀ := X.base) I.ok.mod.kin hk (thn ((pa_cons he pa_nil hs).run pos pins s σ H (fun vs H2 => vs = [V.ref a] ∧ Q (.bl b) H2) I ⟨_, q.1, rfl, q.2⟩) fun us s1 ⟨vs, H1, I1, r, ev, q1⟩ => ⟨I1.kIn, ?_⟩) hs rfl) hdb)
  subst ev
  have eu := Vals.ref1 r
  subst eu
  have P1 := I1.pin (a, oe) (List.mem_append_left _ List.mem_cons_self)
  have hpin : PinOk X.stack H1 s1 (a, oe) := ⟨P1.1, P1.2.1, fun hm => (List.mem_cons.mp (I1.stkSub a hm)).elim P1.2.2.1 P1.2.2.2.1, P1.2.2.2.2⟩
  have bd := hb s1 [Value.ref a] I1.kIn rfl
  refine wpAny_call (codeAny_mono (F.run _ X.stack s1 H1 ⟨[.ref a], []⟩ Q (fun _ _ _ => False) a oe ⟨hr.dp, hr.un⟩ hpin hz hf I1.env0 bd q1) fun r s2 hq => ?_)
  cases r with
  | error e =>
    obtain ⟨_, _, _, _, _, _, _, _, _, _, _, _, z⟩ := hq
    exact z.elim
  | ok fl =>
    cases fl with
    | ret u => exact I1.after hq
    | next => exact False.elim hq
    | brk => exact False.elim hq
    | cont => exact False.elim hq
end
/-! ### suites as plain rows: the slot of the exception is .x -/
section
variable {X : Cx} {W : WF} {cm : Str → Addr} {K : PySem.W.Frag} {h : Hs} {ρ : Env} {σ : L2.St} {i j k : Nat} {a D : Addr} {b : Bool}
def isxF (a : Addr) (i : Nat) (b : Bool) : EF := fun ρ => match slot ρ i with
  | .x c => if c = a then .ok (.v (.bool b)) else .bad
  | _ => .bad
theorem isx_now {Q : VK} {h : Hs} (R : Rel K h ρ σ) (q : PE1 K W h ρ σ Q (isxF a i b ρ)) : σ[i]? = some (some (.ref a)) ∧ PE1 K W h ρ σ Q (.ok (.v (.bool b))) := by
  unfold isxF at q
  cases es : slot ρ i with
  | x c =>
    rw [es] at q
    dsimp only at q
    split at q
    · rename_i e
      subst e
      obtain ⟨x, ex, rfl⟩ := R.get (slot_some es (by intro z; cases z))
      exact ⟨ex, q⟩
    · exact q.elim
  | _ =>
    rw [es] at q
    exact q.elim
theorem xIx {e : Expr} (he : PE X e (tEc i a b)) : PE X e (tX X.K W (isxF a i b)) := peTo he fun σ H Q q => by
  obtain ⟨h, ρ, rfl, R, q⟩ := tX_iff.mp q
  obtain ⟨e1, q1⟩ := isx_now R q
  exact ⟨e1, q1.now R (.bl b)⟩
/-- isinstance(e, (C1, C2, ..)) -/
def rIsET (K : PySem.W.Frag) (D a : Addr) : List V → Hp → VK → Prop := fun xs H Q => ∃ (tp : Addr) (cs : List V) (us : List Value) (b : Bool), xs = [.ref a, .ref tp] ∧ H tp = some (.tup cs) ∧ Paired ClsV cs us ∧ PySem.W.kitAny K (.ref D) us = some b ∧ Q (.bl b) H
theorem call_isET {oe : Obj} {pn : List (Addr × Obj)} (C : ExcC X.K D) (hz : Zc (.ref D) none oe) (hf : ∃ vs, oe.data = .fields vs) : CallR (X.suite a ((a, oe) :: pn)) (.builtin "isinstance") (rIsET X.K D a) := by
  intro pins s σ H xs us Q I r h
  obtain ⟨tp, cs, ws, b, rfl, hT, k, e, q⟩ := h
  obtain ⟨u1, u2, rfl, r1, r2⟩ := Vals.two r
  cases (show u1 = Value.ref a from r1)
  cases (show u2 = Value.ref tp from r2)
  obtain ⟨hget, _⟩ := I.pin (a, oe) (List.mem_append.mpr (.inl List.mem_cons_self))
  obtain ⟨vs, hv⟩ := hf
  have J : PySem.W.InstAt s.heap a oe D none := by
    obtain ⟨oc, od, oda, osl⟩ := oe
    obtain ⟨h1, h2⟩ := hz
    dsimp only at h1 h2 hv
    subst h1 h2 hv
    exact ⟨hget, rfl, rfl, trivial⟩
  obtain ⟨_, its, rv, o, h1, h2, n, h3⟩ := (show ObjOk X.prog X.w H s.heap tp (.tup cs) from I.hok tp _ hT)
  have e3 := ClsV.all k rv
  subst e3
  obtain ⟨oc, od, dt, sl⟩ := o
  simp only at h2 h3
  subst h2 h3
  exact PySem.W.kia_tup (PySem.W.handS_kitx_exc C.hg C.hk C.hs C.hd C.ha C.hn C.ht C.hm) I.kIn J h1 e (fun z => nomatch z) fun tk => ⟨.bl b, H, I.kept (t' := tk) fun _ _ z => z, rfl, q⟩
/-- names of classes, one after the other -/
def tCls (cs : List V) : TA := fun σ H Q => Q cs H
theorem xcls_nil : PA X [] (tCls []) := paTo pa_nil fun σ H Q q => q
theorem xcls_cons {e : Expr} {es : List Expr} {c : V} {cs : List V} (he : PE X e (tC c)) (hr : PA X es (tCls cs)) (hs : starEach (e :: es) X.env = (false, eval e X.env) :: starEach es X.env := by rfl) : PA X (e :: es) (tCls (c :: cs)) := paTo (pa_cons he hr hs) fun σ H Q q => q
theorem xIxT {oe : Obj} {pn : List (Addr × Obj)} {x : Str} {es : List Expr} {p px pos pT : Pos} {x1} {cs : List V} {us : List Value} (C : ExcC X.K D) (hz : Zc (.ref D) none oe) (hf : ∃ vs, oe.data = .fields vs) (hg : Gl (X.suite a ((a, oe) :: pn)) "isinstance") (hm : X.mg "isinstance" = none) (he : PE (X.suite a ((a, oe) :: pn)) (.Name x px) (tVar i)) (hT : PA (X.suite a ((a, oe) :: pn)) es (tCls cs)) (hp : Paired ClsV cs us) (hk : PySem.W.kitAny X.K (.ref D) us = some b) (hl : cs.length ≤ 1000 := by exact Nat.le_of_ble_eq_true rfl)
    (hs : starEach [.Name x px, .Tuple es x1 pT] X.env = (false, eval (.Name x px) X.env) :: starEach [.Tuple es x1 pT] X.env := by rfl) (hs2 : starEach [.Tuple es x1 pT] X.env = (false, eval (.Tuple es x1 pT) X.env) :: starEach [] X.env := by rfl) :
    PE (X.suite a ((a, oe) :: pn)) (.Call (.Name "isinstance" p) [.Name x px, .Tuple es x1 pT] [] pos) (tX X.K W (isxF a i b)) := by
  refine peTo (pe_callB (call_isET C hz hf) hg hm boot_isinstance (pa_cons he (pa_cons (pe_tup hT) pa_nil hs2) hs) (he := hs) (hpl := by rw [hs2]; rfl)) fun σ H Q q => ?_
  obtain ⟨h, ρ, rfl, R, q⟩ := tX_iff.mp q
  obtain ⟨e1, q1⟩ := isx_now R q
  refine ⟨_, e1, sz100 (by omega), fun t ht => ?_⟩
  exact ⟨t, cs, us, b, rfl, upd_same, hp, hk, q1 (.bl b) (h.newO t (.tup cs)) (R.newO ht) (Gr.newO R.ch ht) (.bl b)⟩
theorem cls_nil : Paired ClsV [] [] := .nil
theorem cls_own {C : Addr} {cs : List V} {us : List Value} (h : Paired ClsV cs us) : Paired ClsV (.ref C :: cs) (.ref C :: us) := .cons (.own C) h
theorem cls_ty {n : String} {cs : List V} {us : List Value} (h : Paired ClsV cs us) : Paired ClsV (.ty n :: cs) (.type n :: us) := .cons (.ty n) h
theorem any_t {t c : Value} {cs : List Value} (h : PySem.W.kitOne K t c = some true) : PySem.W.kitAny K t (c :: cs) = some true := kitAny_cons h (fun z => nomatch z) fun _ => rfl
theorem any_f {t c : Value} {cs : List Value} {r : Bool} (h : PySem.W.kitOne K t c = some false) (hr : PySem.W.kitAny K t cs = some r) : PySem.W.kitAny K t (c :: cs) = some r := kitAny_cons h (fun _ => hr) fun z => nomatch z
theorem any_nil {t : Value} : PySem.W.kitAny K t [] = some false := kitAny_nil
/-! rows that do not look at the address -/
def Bl {α : Type} (i : Nat) (F : Addr → Env → α) : Prop := ∀ (a : Addr) (ρ : Env), F a (ρ.set i (.x a)) = F 0 (ρ.set i (.x 0))
def setX (i : Nat) (a : Addr) : Res → Res
  | .next ρ => .next (ρ.set i (.x a))
  | .ret r => .ret r
  | .brk ρ => .brk (ρ.set i (.x a))
  | .cont ρ => .cont (ρ.set i (.x a))
  | .exc c p ρ => .exc c p (ρ.set i (.x a))
  | .bad => .bad
def BlS (i : Nat) (F : Addr → SF) : Prop := ∀ (a : Addr) (ρ : Env), F a (ρ.set i (.x a)) = setX i a (F 0 (ρ.set i (.x 0)))
theorem slot_set_ne {s : Sl} (h : i ≠ k) : slot (ρ.set i s) k = slot ρ k := by
  unfold slot
  rw [List.getD_eq_getElem?_getD, List.getD_eq_getElem?_getD, List.getElem?_set_ne h]
theorem slot_set_x : slot (ρ.set i (.x a)) i = if i < ρ.length then .x a else .u := by
  unfold slot
  rw [List.getD_eq_getElem?_getD, List.getElem?_set]
  simp only [if_true]
  split <;> rfl
theorem bl_var : Bl i (fun _ => varF k) := fun a ρ => by
  show (slot (ρ.set i (.x a)) k).rd = (slot (ρ.set i (.x 0)) k).rd
  by_cases hk : i = k
  · subst hk
    rw [slot_set_x, slot_set_x]
    split <;> rfl
  · rw [slot_set_ne hk, slot_set_ne hk]
theorem bl_isx : Bl i (fun a => isxF a i b) := fun a ρ => by
  show isxF a i b (ρ.set i (.x a)) = isxF 0 i b (ρ.set i (.x 0))
  unfold isxF
  rw [slot_set_x, slot_set_x]
  by_cases hl : i < ρ.length
  · rw [if_pos hl, if_pos hl]
    simp
  · rw [if_neg hl, if_neg hl]
theorem bl_c {d : PyData} : Bl i (fun _ => cF d) := fun a ρ => rfl
theorem bl_bin {φ : Rv → Rv → Er Rv} {F G : Addr → EF} (h1 : Bl i F) (h2 : Bl i G) : Bl i (fun a => binF φ (F a) (G a)) := fun a ρ => by simp only [binF, h1 a ρ, h2 a ρ]
theorem bl_un {φ : Rv → Er Rv} {F : Addr → EF} (h1 : Bl i F) : Bl i (fun a => unF φ (F a)) := fun a ρ => by simp only [unF, h1 a ρ]
theorem bl_and {F G : Addr → EF} (h1 : Bl i F) (h2 : Bl i G) : Bl i (fun a => andF (F a) (G a)) := fun a ρ => by simp only [andF, h1 a ρ, h2 a ρ]
theorem bl_or {F G : Addr → EF} (h1 : Bl i F) (h2 : Bl i G) : Bl i (fun a => orF (F a) (G a)) := fun a ρ => by simp only [orF, h1 a ρ, h2 a ρ]
theorem bl_not {F : Addr → EF} (h1 : Bl i F) : Bl i (fun a => notF (F a)) := fun a ρ => by simp only [notF, h1 a ρ]
theorem bl_nil : Bl i (fun _ => aNil) := fun a ρ => rfl
theorem bl_cons {F : Addr → EF} {G : Addr → AF} (h1 : Bl i F) (h2 : Bl i G) : Bl i (fun a => aCons (F a) (G a)) := fun a ρ => by simp only [aCons, h1 a ρ, h2 a ρ]
theorem bl_lst {F : Addr → AF} (h1 : Bl i F) : Bl i (fun a => lstF (F a)) := fun a ρ => by simp only [lstF, h1 a ρ]
theorem bl_tup {F : Addr → AF} (h1 : Bl i F) : Bl i (fun a => tupF (F a)) := fun a ρ => by simp only [tupF, h1 a ρ]
theorem bl_call {g : List Sl → Fr} {F : Addr → AF} (h1 : Bl i F) : Bl i (fun a => callF g (F a)) := fun a ρ => by simp only [callF, h1 a ρ]
theorem bl_tst {F : Addr → EF} (h1 : Bl i F) : Bl i (fun a => tstF (F a)) := fun a ρ => by simp only [tstF, h1 a ρ]
theorem bl_andT {F G : Addr → Env → Er Bool} (h1 : Bl i F) (h2 : Bl i G) : Bl i (fun a => andT (F a) (G a)) := fun a ρ => by simp only [andT, h1 a ρ, h2 a ρ]
theorem bl_orT {F G : Addr → Env → Er Bool} (h1 : Bl i F) (h2 : Bl i G) : Bl i (fun a => orT (F a) (G a)) := fun a ρ => by simp only [orT, h1 a ρ, h2 a ρ]
theorem bl_notT {F : Addr → Env → Er Bool} (h1 : Bl i F) : Bl i (fun a => notT (F a)) := fun a ρ => by simp only [notT, h1 a ρ]
theorem set_again {s t : Sl} (h : j ≠ i) : (ρ.set i s).set j t = ((ρ.set i (.x 0)).set j t).set i s := by
  apply List.ext_getElem?
  intro k
  simp only [List.getElem?_set, List.length_set]
  by_cases h1 : j = k
  · subst h1
    simp [Ne.symm h]
  · by_cases h2 : i = k
    · subst h2
      simp [h]
    · simp [h1, h2]
theorem bls_asg {F : Addr → EF} (hj : j ≠ i) (h1 : Bl i F) : BlS i (fun a => asgS (F a) (asgn j)) := fun a ρ => by
  simp only [asgS, h1 a ρ]
  cases F 0 (ρ.set i (.x 0)) with
  | ok r =>
    cases r with
    | r d =>
      simp only [thenS, asgn]
      split
      · simp only [liftE, setX]; rw [← set_again hj]
      · rfl
    | v d => simp only [thenS, asgn, liftE, setX]; rw [← set_again hj]
    | b d => simp only [thenS, asgn, liftE, setX]; rw [← set_again hj]
    | o d => simp only [thenS, asgn, liftE, setX]; rw [← set_again hj]
    | ok d => simp only [thenS, asgn, liftE, setX]; rw [← set_again hj]
    | ot d => simp only [thenS, asgn, liftE, setX]; rw [← set_again hj]
    | _ => rfl
  | exc c p => simp only [thenS, setX, List.set_set]
  | bad => rfl
theorem bls_seq {F G : Addr → SF} (h1 : BlS i F) (h2 : BlS i G) : BlS i (fun a => seqS (F a) (G a)) := fun a ρ => by
  have e0 := h1 0 ρ
  simp only [seqS, h1 a ρ]
  cases ef : F 0 (ρ.set i (.x 0)) with
  | next ρ1 =>
    rw [ef] at e0
    have e1 : ρ1 = ρ1.set i (.x 0) := Res.next.inj e0
    have e2 := h2 a ρ1
    rw [← e1] at e2
    exact e2
  | _ => rfl
theorem bls_skip : BlS i (fun _ => skipS) := fun a ρ => by simp only [skipS, setX, List.set_set]
theorem bls_if {T : Addr → Env → Er Bool} {F G : Addr → SF} (ht : Bl i T) (h1 : BlS i F) (h2 : BlS i G) : BlS i (fun a => ifS (T a) (F a) (G a)) := fun a ρ => by
  simp only [ifS, ht a ρ]
  cases T 0 (ρ.set i (.x 0)) with
  | ok b =>
    simp only [thenT]
    cases b with
    | true => exact h1 a ρ
    | false => exact h2 a ρ
  | exc c p => simp only [thenT, setX, List.set_set]
  | bad => rfl
theorem bls_frz {F : Addr → SF} (hj : j ≠ i) (h1 : BlS i F) : BlS i (fun a => frzS j (F a)) := fun a ρ => by
  have : ∀ a : Addr, frzE (ρ.set i (.x a)) j = (frzE ρ j).set i (.x a) := fun a => by
    unfold frzE
    rw [slot_set_ne (Ne.symm hj), List.set_comm _ _ hj]
  simp only [frzS, this]
  exact h1 a _
def tryXS (f : SF) (m : Str → Option Bool) (i : Nat) (g : Str → Addr → SF) : SF := fun ρ => match f ρ with
  | .exc c none ρ' => match m c with
    | some true => if i < ρ'.length then wipeRes i (g c 0 (ρ'.set i (.x 0))) else .bad
    | some false => .exc c none ρ'
    | none => .bad
  | .exc c (some p) ρ' => match m c with
    | some false => .exc c (some p) ρ'
    | _ => .bad
  | r => r
theorem Rel.x (R : Rel K h ρ σ) (i : Nat) (a : Addr) : Rel K h (ρ.set i (.x a)) (σ.set i (some (.ref a))) := R.set i rfl fun _ _ _ z => nomatch z
theorem xtryX {x n : Str} {c : Value} {body suite : List Stmt} {b₀ : Stmt} {np pos pos' : Pos} {f : SF} {g : Str → Addr → SF} {yes no : List Str} (tk : Tk X cm W) (hs : X.stack = X.env :: X.outer) (hf : X.env.frame = some X.env.locals) (hN : X.N.Nodup) (hi : X.N[i]? = some n) (hln : X.env.kindOf n = some .local) (hc : Names X x c)
    (hy : ∀ d ∈ yes, PySem.W.exmOne X.K (.ref (cm d)) c = some true) (hn : ∀ d ∈ no, PySem.W.exmOne X.K (.ref (cm d)) c = some false)
    (hb : ∀ (Wx : WX) (pn : List (Addr × Obj)) (xe : Value → Shared → Prop), Tk (X.tr pn xe) cm (WFx X.K cm Wx) → PassesOwn (model X.prog X.w) X.A X.env xe → PSs (X.tr pn xe) body (tS X.K (WFx X.K cm Wx) f))
    (hsu : ∀ d ∈ yes, ∀ (a : Addr) (oe : Obj) (pn : List (Addr × Obj)), Zc (.ref (cm d)) none oe → (∃ vs, oe.data = .fields vs) → PSs (X.suite a ((a, oe) :: pn)) (b₀ :: suite) (tS X.K WN (g d a)))
    (hbl : ∀ d ∈ yes, BlS i (g d)) :
    PS X (.Try body [.ExceptHandler (some (.Name x np)) (some n) (b₀ :: suite) pos'] [] [] pos) (tS X.K W (tryXS f (mL yes no) i g)) := by
  obtain ⟨Wx, tk, hW⟩ := tk
  refine psTo (ps_try_as (tb := fun Wx => tS X.K (WFx X.K cm Wx) f) (ts := fun a cls d => fun D σ H => ∃ e, e ∈ yes ∧ cls = .ref (cm e) ∧ d = none ∧ tS X.K WN (g e a) D σ H) hs hf hN hi hln hc tk (fun Wx pn xe tk hpo => hb Wx pn xe (tkOf tk) hpo) fun a oe cls d pn hz hfl => ⟨fun pins s σ H D I hw => ?_⟩) fun D σ H hq => ?_
  · obtain ⟨e, he, rfl, rfl, hw⟩ := hw
    exact (hsu e he a oe pn hz hfl).run pins s σ H D I hw
  obtain ⟨h, ρ, e, R, q⟩ := id hq
  subst e
  refine ⟨h, ρ, rfl, R, ?_⟩
  unfold tryXS at q
  cases ef : f ρ with
  | next ρ' => rw [ef] at q; exact q
  | ret r => rw [ef] at q; exact q
  | brk ρ' => rw [ef] at q; exact q
  | cont ρ' => rw [ef] at q; exact q
  | bad => rw [ef] at q; exact q.elim
  | exc d p ρ' =>
    rw [ef] at q
    intro σ' h' R' g'
    cases p with
    | none =>
      dsimp only at q
      cases em : mL yes no d with
      | none => rw [em] at q; exact q.elim
      | some b =>
        rw [em] at q
        have hx := mL_exm hy hn em
        cases b with
        | false => exact ⟨false, hx, fun z => (nomatch z), fun _ => hW _ _ _ _ (q σ' h' R' g')⟩
        | true =>
          dsimp only at q
          split at q
          rotate_left
          · exact q.elim
          refine ⟨true, hx, fun _ a _ => ⟨d, mL_yes em, rfl, rfl, h', ρ'.set i (.x a), rfl, R'.x i a, ?_⟩, fun z => nomatch z⟩
          rw [hbl d (mL_yes em) a ρ']
          have q' := Post.shift g' q
          cases eg : g d 0 (ρ'.set i (.x 0)) with
          | next ρ2 =>
            rw [eg] at q'
            exact fun σ2 h2 R2 g2 => q' _ h2 (by
              have := R2.u i none
              rw [List.set_set] at this
              exact this) g2
          | ret r => rw [eg] at q'; exact q'
          | _ => rw [eg] at q'; exact q'.elim
    | some p =>
      dsimp only at q
      cases em : mL yes no d with
      | none => rw [em] at q; exact q.elim
      | some b =>
        rw [em] at q
        have hx := mL_exm hy hn em
        cases b with
        | true => exact q.elim
        | false =>
          have := hW _ _ _ _ (q σ' h' R' g')
          exact fun dd v e1 e2 => ⟨false, hx, fun z => (nomatch z), fun _ => this dd v e1 e2⟩
end
/-! ### texts -/
section
variable {X : Cx} {W : WF} {cm : Str → Addr} {K : PySem.W.Frag} {a b e : Expr} {f g : EF} {pos : Pos}
def dStrs : List D → Option (List Str)
  | [] => some []
  | .str a :: r => (dStrs r).map (a :: ·)
  | _ => none
theorem dStrs_v {H : Hp} : ∀ {ds : List D} {vs : List V} {ns : List Str}, dStrs ds = some ns → DpAll K H vs ds → vs = ns.map V.str
  | [], _, _, e, h => by
    cases e
    cases h
    rfl
  | .str a :: r, _, _, e, h => by
    unfold dStrs at e
    cases h with
    | cons h t =>
      cases e1 : dStrs r with
      | none => rw [e1] at e; cases e
      | some ms =>
        rw [e1] at e
        cases e
        rw [dp_str h, dStrs_v e1 t]
        rfl
  | .none :: _, _, _, e, _ => by cases e
  | .int _ :: _, _, _, e, _ => by cases e
  | .bool _ :: _, _, _, e, _ => by cases e
  | .list _ :: _, _, _, e, _ => by cases e
  | .tuple _ :: _, _, _, e, _ => by cases e
  | .dict _ :: _, _, _, e, _ => by cases e
/-- s.m(b): s a text -/
def strM (χ : Str → Rv → Er Rv) (f g : EF) : EF := fun ρ => (f ρ).bind fun a => match a.dat with
  | some (.str s) => (g ρ).bind fun b => χ s b
  | _ => .bad
def MOk (K : PySem.W.Frag) (W : WF) (χ : Str → Rv → Er Rv) (r : V → List V → Hp → VK → Prop) : Prop :=
  ∀ (h0 h : Hs) (ρ : Env) (σ : L2.St) (s : Str) (y : V) (b : Rv) (Q : VK), Rel K h0 ρ σ → Rel K h ρ σ → Gr h0 h → RvOk K h0.H h y b → PE1 K W h ρ σ Q (χ s b) → r (.str s) [y] h.H Q
theorem strM_of {χ : Str → Rv → Er Rv} {r : V → List V → Hp → VK → Prop} (hr : MOk K W χ r) : ∀ σ H Q, tX K W (strM χ f g) σ H Q → tM1 r (tX K W f) (tX K W g) σ H Q := by
  intro σ H Q q
  obtain ⟨h, ρ, rfl, R, q⟩ := tX_iff.mp q
  refine (tX_mk (f := f) R (q.bind fun a x h1 ea R1 g1 ok1 q1 => ?_) : tX K W f σ h.H _)
  split at q1
  · rename_i s es
    have e1 := dp_str (ok1.dp R1.ch es)
    subst e1
    refine ⟨⟨s, rfl⟩, (tX_mk (f := g) R1 (q1.bind fun b y h2 _ R2 g2 ok2 q2 => ?_) : tX K W g σ h1.H _)⟩
    exact hr h1 h2 ρ σ s y b Q R1 R2 g2 ok2 q2
  · exact q1.elim
def joinR (s : Str) (b : Rv) : Er Rv := match b.dat with
  | some (.list ds) => (match dStrs ds with
    | some ys => if (ys.map (·.length)).sum + ys.length * s.length ≤ 16777216 then .ok (.v (.str (Txt.join s ys))) else .bad
    | none => .bad)
  | _ => .bad
theorem xjoin {apos : Pos} (ha : PE X a (tX X.K W f)) (hb : PE X b (tX X.K W g)) (hs : starEach [b] X.env = [(false, eval b X.env)] := by rfl) (hbase : attributeBase a "join" X.env (eval a X.env) = eval a X.env := by rfl) (hline : (apos.endLine == pos.line) = true := by rfl) :
    PE X (.Call (.Attribute a "join" apos) [b] [] pos) (tX X.K W (strM joinR f g)) := peTo (pe_join ha hb hs hbase hline) (strM_of fun h0 h ρ σ s y b Q R0 R g ok q => by
  unfold joinR at q
  split at q
  · rename_i ds ed
    obtain ⟨p, vs, rfl, sl, d⟩ := dp_lst (ok.dp R.ch ed)
    split at q
    · rename_i ys ey
      rw [dStrs_v ey d] at sl
      split at q
      · rename_i hz
        exact ⟨s, p, ys, rfl, rfl, .inl sl, hz, q.now R (.str _)⟩
      · exact q.elim
    · exact q.elim
  · exact q.elim)
def splitR (s : Str) (b : Rv) : Er Rv := match b.dat with
  | some (.str t) => if t.length ≠ 0 ∧ s.length + 2 ≤ 100000 then .ok (.o ((Txt.split s t).map .str)) else .bad
  | _ => .bad
theorem strs_dp {H : Hp} : ∀ ys : List Str, DpAll K H (ys.map V.str) (ys.map PyData.str)
  | [] => .nil
  | y :: ys => .cons (.str y) (strs_dp ys)
theorem xsplit {apos : Pos} (ha : PE X a (tX X.K W f)) (hb : PE X b (tX X.K W g)) (hs : starEach [b] X.env = [(false, eval b X.env)] := by rfl) (hbase : attributeBase a "split" X.env (eval a X.env) = eval a X.env := by rfl) (hline : (apos.endLine == pos.line) = true := by rfl) :
    PE X (.Call (.Attribute a "split" apos) [b] [] pos) (tX X.K W (strM splitR f g)) := peTo (pe_split ha hb hs hbase hline) (strM_of fun h0 h ρ σ s y b Q R0 R g ok q => by
  unfold splitR at q
  split at q
  · rename_i t et
    have e1 := dp_str (ok.dp R.ch et)
    subst e1
    split at q
    · rename_i hz
      exact ⟨s, t, rfl, rfl, by simpa using hz.1, sz100 hz.2, fun p hp => q.newL R (strs_dp _) hp⟩
    · exact q.elim
  · exact q.elim)
def findR (s : Str) (b : Rv) : Er Rv := match b.dat with
  | some (.str t) => .ok (.v (.int (Txt.find s t)))
  | _ => .bad
theorem xfind {apos : Pos} (ha : PE X a (tX X.K W f)) (hb : PE X b (tX X.K W g)) (hs : starEach [b] X.env = [(false, eval b X.env)] := by rfl) (hbase : attributeBase a "find" X.env (eval a X.env) = eval a X.env := by rfl) (hline : (apos.endLine == pos.line) = true := by rfl) :
    PE X (.Call (.Attribute a "find" apos) [b] [] pos) (tX X.K W (strM findR f g)) := peTo (pe_m1 F.slot_str_find F.type_str_find mt_find ha hb hs hbase hline) (strM_of fun h0 h ρ σ s y b Q R0 R g ok q => by
  unfold findR at q
  split at q
  · rename_i t et
    have e1 := dp_str (ok.dp R.ch et)
    subst e1
    exact ⟨s, t, rfl, rfl, q.now R (.int _)⟩
  · exact q.elim)
/-- a text, often -/
def srep : D → D → Er D := fun x y => match x, y with
  | .str s, .int k => if s.length ≤ 100 ∧ -(2 ^ 63) ≤ k ∧ k ≤ 10000 then .ok (.str (Txt.mul s k)) else .bad
  | _, _ => .bad
def rSrep : R2 := fun x y H Q => ∃ s k, x = .str s ∧ y = .int k ∧ (s.length ≤ 100 ∧ -(2 ^ 63) ≤ k ∧ k ≤ 10000) ∧ Q (.str (Txt.mul s k)) H
theorem op_srep : OpR X (binaryOp .Mult) rSrep := by
  intro pins s σ H x y v u Q I rx ry h
  obtain ⟨z, k, rfl, rfl, hc, q⟩ := h
  obtain ⟨t, rfl⟩ := rx
  obtain ⟨t2, rfl⟩ := ry
  exact SB.mul (mulOk_of 100 10000 hc.1 hc.2.2 hc.2.1 (by decide) (by decide)) fun t' k => ⟨.str _, H, I.tok k, ⟨t', rfl⟩, q⟩
theorem ok_srep : OpOk K W (flat2 srep) rSrep := by
  refine flat_ok (fun x y c p e => ?_) (fun H x y d e f Q h1 h2 e1 q => ?_) fun d e f e1 => ?_
  · unfold srep at e; split at e; (· split at e <;> cases e); cases e
  · unfold srep at e1
    split at e1
    · split at e1
      · rename_i hc
        cases e1
        exact ⟨_, _, dp_str h1, dp_int h2, hc, q _ rfl⟩
      · cases e1
    · cases e1
  · unfold srep at e1
    split at e1
    · split at e1
      · cases e1; rfl
      · cases e1
    · cases e1
theorem xsrep (ha : PE X a (tX X.K W f)) (hb : PE X b (tX X.K W g)) : PE X (.BinOp a .Mult b pos) (tX X.K W (binF (flat2 srep) f g)) := peTo (pe_op op_srep ha hb) (bin_of ok_srep)
/-- a call with nothing handed over -/
theorem xcall0 {k : Nat} {f : Addr} {fd : FuncData} {g : List Sl → Fr} {x : Str} {p pos : Pos} (tk : Tk X cm W) (F : FnOk X.prog X.w X.K X.mg X.base (L2.CX X.prog X.w) k f fd [] (fsp X.K cm 0 g)) (hr : Room k X.A) (hg : Gl X x) (hm : X.mg x = some (.ref f)) (hk : PySem.W.keepIn X.K (.ref f) = true) (hb : Binds X.K fd [] [])
    (hdb : (x == ("__debug__" : Str)) = false := by decide) :
    PE X (.Call (.Name x p) [] [] pos) (tX X.K W (callF g aNil)) := by
  obtain ⟨Wx, tk, hW⟩ := tk
  have hp : PE X (.Call (.Name x p) [] [] pos) (fun σ H Q => fsp X.K cm 0 g [] H Q (WE Wx σ)) := ⟨fun pins s σ H Q I h => by
    refine wpAny_Call_Name_kw (ld_glob I hg hm ?_ hdb)
    exact PySem.W.callWith_K0 I.kIn hk (run_fnS (E := WE Wx) (us := []) F hr hb (passAt tk σ) I .nil h)⟩
  refine peTo hp fun σ H Q q => ?_
  obtain ⟨h, ρ, rfl, R, q⟩ := tX_iff.mp q
  have q1 : PE1 X.K W h ρ σ Q (g []).rv := q
  refine ⟨rfl, h.G, [], R.ch.gh, trivial, ?_⟩
  cases eg : g [] with
  | bad => rw [eg] at q1; exact q1.elim
  | exc c p =>
    rw [eg] at q1
    cases p with
    | none =>
      intro G' H' cg
      obtain ⟨gr, ch⟩ := call_gr R.ch cg
      exact hW _ _ _ _ (q1 (h.call G' H') (R.grow gr ch) gr)
    | some p =>
      obtain ⟨ff, xx⟩ := p
      intro G' H' d v cg hd hv
      obtain ⟨gr, ch⟩ := call_gr R.ch cg
      exact hW _ _ _ _ (q1 (h.call G' H') (R.grow gr ch) gr) d v hd hv
  | ret res =>
    rw [eg] at q1
    intro v G' H' cg ok'
    obtain ⟨gr, ch⟩ := call_gr R.ch cg
    have R2 := R.grow gr ch
    cases res with
    | v d => exact q1 v (h.call G' H') R2 gr ok'
    | b d => exact q1 v (h.call G' H') R2 gr ok'
    | o xs =>
      obtain ⟨l, ws, ev, n, a, b, d⟩ := ok'
      refine q1 v (h.call G' H') R2 gr ⟨l, ws, ev, n, a, ?_, d⟩
      show (match h.F l with | some o => some o | none => G' l) = none
      rw [R.ch.fh.back n]
      exact b
    | ok xs =>
      obtain ⟨l, ws, ev, n, a, b, d⟩ := ok'
      refine q1 v (h.call G' H') R2 gr ⟨l, ws, ev, n, a, ?_, d⟩
      show (match h.F l with | some o => some o | none => G' l) = none
      rw [R.ch.fh.back n]
      exact b
    | p2 xs ys =>
      obtain ⟨t, l, m, vs', ws, ev, ht, ne, ⟨n, a, b, d⟩, ⟨n2, a2, b2, d2⟩⟩ := ok'
      refine q1 v (h.call G' H') R2 gr ⟨t, l, m, vs', ws, ev, ht, ne, ⟨n, a, ?_, d⟩, ⟨n2, a2, ?_, d2⟩⟩
      · show (match h.F l with | some o => some o | none => G' l) = none
        rw [R.ch.fh.back n]
        exact b
      · show (match h.F m with | some o => some o | none => G' m) = none
        rw [R.ch.fh.back n2]
        exact b2
    | _ => exact q1.elim
end
end Sq
/-! sep.join(reversed(a list)) -/
namespace RT
open PySem PySem.Spec PyProof.Rows L2
section
variable {prog : Program} {w : World} {A : Around} {E : Value → Shared → Prop} {s : Shared}
theorem join_rev {x : Str} {t : Tok} {ys : List Str} {it l : Addr} {items : Array Value} {Q : Value → Shared → Prop} (hh : A.handled = none) (hit : s.heap.IsRevIter it l ((items.size : Int) - 1)) (hl : s.heap.IsList l items) (hne : l ≠ it) (hn : items.size ≤ sizeLine)
    (hP : ∀ acc : Array Value, ItemsOf (fun i v => items[items.size - 1 - i]? = some v) acc items.size → StrsAre acc.toList ys) (hok : (ys.map (·.length)).sum + ys.length * x.length ≤ 16777216)
    (hq : ∀ (h' : Heap) (tk : Nat) (t' : Tok), (∀ b o, b ≠ it → s.heap.get? b = some o → h'.get? b = some o) → Q (.str (Txt.join x ys) t') { s with heap := h', toks := tk }) :
    wpAny (model prog w) A (call (.builtin "str.join") [.str x t, .ref it]) Q E s := by
  refine wpAny_call (codeAny_call_builtin F.slot_str_join.plain F.entry_str_join (F.slot_str_join.check _ _ _ _ _ _ _ _ (typeIs_str _ _ _) (F.args_str_join_2 _ _) ?_))
  rw [join_tree_other]
  refine wpAny_bind (wpAny_typeOf (Heap.IsRevIter.typeIs (s := s) hit) ?_)
  show wpAny _ A.in1 ((pyIter (.ref it)).tryCatch _ >>= fun it => collect it >>= fun items => joinTail x items) _ _ s
  refine wpAny_bind (wpAny_tryCatch (wpAny_pyIter_revIter (s := s) hit ?_))
  refine wpAny_bind (collect_rev (A := A.in1) hh hit hl hne hn fun h' tk acc hk hacc => ?_)
  obtain ⟨l', hl', ht⟩ := strsAre_values (hP acc hacc)
  subst ht
  rw [hl']
  have hok' := joinOk_of hok
  unfold JoinOk at hok'
  rw [Bool.not_eq_true'] at hok'
  have g : Gives (joinTail x (strValues l')) (joinMade x l') := by
    have g0 := gives_joinTail x l' hok'
    cases l' with
    | nil => exact g0
    | cons p r => cases r with
      | nil => exact g0
      | cons q r' => exact g0
  exact g prog w A (wants Q E) _ (post_join l' ⟨joinFit_length hok', fun t' k => hq h' k t' hk⟩)
end
section
variable {X : Cx}
def tJoinRev (K : PySem.W.Frag) (to te : TE) : TE := fun σ H Q => to σ H fun x H1 => (∃ a, x = .str a) ∧ te σ H1 fun v H2 => ∃ (a : Str) (p : Addr) (ys : List Str), x = .str a ∧ v = .ref p ∧ SqL K H2 p (ys.map V.str) ∧
  (ys.map (·.length)).sum + ys.length * a.length ≤ 16777216 ∧ Q (.str (Txt.join a ys.reverse)) H2
theorem pe_joinRev {o e : Expr} {to te : TE} {apos pos p2 pos2 : Pos} (hc : X.calm = true) (ho : PE X o to) (hg2 : Gl X "reversed") (hm2 : X.mg "reversed" = none) (he : PE X e te)
    (hs : starEach [e] X.env = (false, eval e X.env) :: starEach [] X.env := by rfl)
    (hs1 : starEach [.Call (.Name "reversed" p2) [e] [] pos2] X.env = [(false, eval (.Call (.Name "reversed" p2) [e] [] pos2) X.env)] := by rfl)
    (hbase : attributeBase o "join" X.env (eval o X.env) = eval o X.env := by rfl) (hline : (apos.endLine == pos.line) = true := by rfl) :
    PE X (.Call (.Attribute o "join" apos) [.Call (.Name "reversed" p2) [e] [] pos2] [] pos) (tJoinRev X.K to te) := by
  refine ⟨fun pins s σ H Q I h => ?_⟩
  refine PySem.Call_method1 hbase hs1 hline (thn (ho.run pins s σ H _ I h) fun v s1 ⟨x, H1, I1, r1, q1⟩ => ?_)
  obtain ⟨⟨a, rfl⟩, q1⟩ := q1
  obtain ⟨t, rfl⟩ := _root_.id r1
  refine ⟨"str", _, F.plainAttrs_str, F.slot_str_join, F.type_str_join, typeIs_str _ _ _, (fun _ e => nomatch e), Calls.callWith_builtin rfl (Calls.evalArgs_plain (Calls.spliced_cons ?_))⟩
  refine Call_ (ld_blt I1 hg2 hm2 PyProof.Rows.boot_reversed (PyProof.Rows.callWith_type1 (args_cons (thn (he.run pins s1 σ H1 _ I1 q1) fun u s2 ⟨v, H2, I2, r2, q2⟩ => args_nil ?_) hs) hs rfl))
  obtain ⟨a', l, ys, ea, ev, hq, hz, q⟩ := q2
  cases ea
  subst ev
  obtain rfl : u = Value.ref l := r2
  obtain ⟨its, rv, p', hz2⟩ := I2.list hq
  refine call_reversed_list p'.isList ?_
  have k0 : ∀ b o, s2.heap.get? b = some o → (s2.heap.push (revObj l ((its.toArray.size : Int) - 1))).get? b = some o := fun b o e => Heap.get?_push_of_some _ e
  have I3 : Inv X pins σ H2 { s2 with heap := s2.heap.push (revObj l ((its.toArray.size : Int) - 1)) } := I2.kept (t' := s2.toks) k0
  obtain ⟨f0, f1, f2, f3, f4, f5⟩ := I2.fpOk (H' := H2) (b := s2.heap.objs.size) (Nat.le_refl _) (I2.hok.fresh (Nat.le_refl _))
  have hl := p'.isList
  obtain ⟨ol, hol, _⟩ := id hl
  have hne : l ≠ s2.heap.objs.size := Nat.ne_of_lt (Heap.lt_size hol)
  have hn : its.toArray.size ≤ sizeLine := by rw [List.size_toArray, ← rv.length]; exact hz2
  refine Calls.spliced_nil ?_
  refine join_rev (ys := ys.reverse) (s := { s2 with heap := s2.heap.push (revObj l ((its.toArray.size : Int) - 1)) }) (I2.ok.hd hc) ⟨_, Heap.get?_push_size _ rfl, rfl, rfl⟩ (hl.push _) hne hn (fun acc hi => ?_) (by
    rw [List.map_reverse, List.sum_reverse, List.length_reverse]
    exact hz) fun h' tk t' hk => ?_
  · have := vals_rev rv hi
    rw [← List.map_reverse] at this
    exact strs_of_vals this
  · exact ⟨.str _, H2, I3.turned (t' := tk) (fun b o hb e => hk b o hb e) f0 f1 f3 f4 f5, ⟨t', rfl⟩, q⟩
end
end RT
namespace Sq
open PySem PySem.Spec PyProof.Rows L2
section
variable {X : Cx} {W : WF} {K : PySem.W.Frag} {a b : Expr} {f g : EF} {pos : Pos}
def joinRevR (s : Str) (b : Rv) : Er Rv := match b.dat with
  | some (.list ds) => (match dStrs ds with
    | some ys => if (ys.map (·.length)).sum + ys.length * s.length ≤ 16777216 then .ok (.v (.str (Txt.join s ys.reverse))) else .bad
    | none => .bad)
  | _ => .bad
theorem xjoinRev {apos p2 pos2 : Pos} (hc : X.calm = true) (hg2 : Gl X "reversed") (hm2 : X.mg "reversed" = none) (ha : PE X a (tX X.K W f)) (hb : PE X b (tX X.K W g))
    (hs : starEach [b] X.env = (false, eval b X.env) :: starEach [] X.env := by rfl)
    (hs1 : starEach [.Call (.Name "reversed" p2) [b] [] pos2] X.env = [(false, eval (.Call (.Name "reversed" p2) [b] [] pos2) X.env)] := by rfl)
    (hbase : attributeBase a "join" X.env (eval a X.env) = eval a X.env := by rfl) (hline : (apos.endLine == pos.line) = true := by rfl) :
    PE X (.Call (.Attribute a "join" apos) [.Call (.Name "reversed" p2) [b] [] pos2] [] pos) (tX X.K W (strM joinRevR f g)) := by
  refine peTo (RT.pe_joinRev hc ha hg2 hm2 hb hs hs1 hbase hline) fun σ H Q q => ?_
  obtain ⟨h, ρ, rfl, R, q⟩ := tX_iff.mp q
  refine (tX_mk (f := f) R (q.bind fun a x h1 ea R1 g1 ok1 q1 => ?_) : tX X.K W f σ h.H _)
  split at q1
  · rename_i s es
    have e1 := dp_str (ok1.dp R1.ch es)
    subst e1
    refine ⟨⟨s, rfl⟩, (tX_mk (f := g) R1 (q1.bind fun b y h2 _ R2 g2 ok2 q2 => ?_) : tX X.K W g σ h1.H _)⟩
    unfold joinRevR at q2
    split at q2
    · rename_i ds ed
      obtain ⟨p, vs, rfl, sl, d⟩ := dp_lst (ok2.dp R2.ch ed)
      split at q2
      · rename_i ys ey
        rw [dStrs_v ey d] at sl
        split at q2
        · rename_i hz
          exact ⟨s, p, ys, rfl, rfl, sl, hz, q2.now R2 (.str _)⟩
        · exact q2.elim
      · exact q2.elim
    · exact q2.elim
  · exact q1.elim
end
/-! ### l[i] += e: l an own list of whole numbers -/
section
variable {X : Cx} {W : WF} {K : PySem.W.Frag} {e i : Expr} {f g : EF} {pos p p2 : Pos}
def tgetL : V → V → Hp → VK → Prop := fun o i H Q => ∃ (l : Addr) (xs : List V) (n : Nat) (v : V), o = .ref l ∧ i = .int (n : Int) ∧ H l = some (.lst xs) ∧ xs[n]? = some v ∧ Q v H
theorem get_listL : PGet X tgetL := by
  intro pins s σ H o i ov iv Q I ro ri h
  obtain ⟨l, xs, n, v, rfl, rfl, hl, hx, q⟩ := h
  cases ro
  obtain ⟨t, rfl⟩ := ri
  obtain ⟨z, its, c, r, hn, hg⟩ := I.lstM hl
  obtain ⟨u, hu, ru⟩ := r.get hx
  have hlt : n < its.length := (List.getElem?_eq_some_iff.mp hu).1
  have h63 := line63
  exact wpAny_getItem_list (items := its.toArray) ⟨_, hg, rfl, _, rfl⟩ (by omega) (by omega) (by rw [Int.toNat_natCast]; simpa using hu) ⟨v, H, I, ru, q⟩
def augIt (j : Nat) (g f : EF) : SF := fun ρ => match slot ρ j with
  | .o xs => thenS ρ (g ρ) fun i => match i.dat with
    | some (.int z) => if 0 ≤ z then (match xs[z.toNat]? with
      | some (.int old) => thenS ρ (f ρ) fun r => (match r.dat with
        | some (.int k) => .next (ρ.set j (.o (xs.set z.toNat (.int (old + k)))))
        | _ => .bad)
      | _ => .bad) else .bad
    | _ => .bad
  | _ => .bad
theorem xaugIt (j : Nat) {x : Str} (ho : PE X (.Name x p) (tVar j)) (hi : PE X i (tX X.K W g)) (he : PE X e (tX X.K W f))
    (ha : ∀ ov iv new, augStore i ov iv new = (do holding [new, ov, iv] (setItem ov iv new); release [new, ov, iv] []; pure .next) := by intros; rfl) :
    PS X (.AugAssign (.Subscript (.Name x p) i p2) .Add e pos) (tS X.K W (augIt j g f)) := by
  refine psTo (ps_augS ho hi get_listL he ip_add set_list ha) fun D σ H ⟨h, ρ, eh, R, q⟩ => ?_
  subst eh
  unfold augIt at q
  split at q
  · rename_i xs es
    obtain ⟨l, vs, ex, hl, hd, hlen, _⟩ := mut_now R es
    refine ⟨.ref l, ex, ?_⟩
    refine (tX_mk (f := g) R (q.then fun iz v3 h3 _ R3 g3 ok3 q3 => ?_) : tX X.K W g σ h.H _)
    split at q3
    · rename_i z ez
      split at q3
      · rename_i hz
        split at q3
        · rename_i old eo
          have ev := dp_int (ok3.dp R3.ch ez)
          subst ev
          obtain ⟨l2, vs2, ex2, hl2, hd2, hlen2, _⟩ := mut_now R3 es
          rw [ex] at ex2
          cases ex2
          obtain ⟨w, ew, dw⟩ := hd2.get eo
          have ew2 := dp_int dw
          subst ew2
          refine ⟨l, vs2, z.toNat, _, rfl, by rw [Int.toNat_of_nonneg hz], hl2, ew, ?_⟩
          refine (tX_mk (f := f) R3 ((Post.shift g3.sg q3).then fun r v4 h4 _ R4 g4 ok4 q4 => ?_) : tX X.K W f σ h3.H _)
          split at q4
          · rename_i k ek
            have ev4 := dp_int (ok4.dp R4.ch ek)
            subst ev4
            obtain ⟨l5, vs5, ex5, hl5, hd5, hlen5, mt⟩ := mut_now R4 es
            rw [ex] at ex5
            cases ex5
            obtain ⟨R6, g6⟩ := mt (vs5.set z.toNat (.int (old + k))) (xs.set z.toNat (.int (old + k))) (hd5.set (.int _) _)
            refine ⟨old, k, rfl, rfl, l, vs5, z, z.toNat, rfl, rfl, hl5, ?_, q4 σ _ R6 (g4.sg.trans g6)⟩
            have hlt : z.toNat < vs5.length := by
              rw [hlen5]
              exact (List.getElem?_eq_some_iff.mp eo).1
            unfold ixN
            rw [if_pos hz, if_pos (by omega)]
          · exact q4.elim
        · exact q3.elim
      · exact q3.elim
    · exact q3.elim
  · exact q.elim
end
/-! ### two own lists told in a tuple, and taken -/
section
variable {X : Cx} {W : WF} {cm : Str → Addr} {K : PySem.W.Frag}
def retPair (i j : Nat) : SF := fun ρ => match slot ρ i, slot ρ j with
  | .o xs, .o ys => if i = j then .bad else .ret (.p2 xs ys)
  | _, _ => .bad
theorem own_now {h : Hs} {ρ : Env} {σ : L2.St} (R : Rel K h ρ σ) {i : Nat} {xs : List D} (es : slot ρ i = .o xs) : ∃ l vs, σ[i]? = some (some (.ref l)) ∧ h.H l = some (.lst vs) ∧ h.F l = none ∧ DpAll K h.G vs xs := by
  obtain ⟨x, ex, l, vs, rfl, hl, fl, hd⟩ := R.get (slot_some es (by intro z; cases z))
  exact ⟨l, vs, ex, hl, fl, hd⟩
theorem xretPair (i j : Nat) {x y : Str} {px py pt pos : Pos} {kt} (hx : PE X (.Name x px) (tVar i)) (hy : PE X (.Name y py) (tVar j))
    (h1 : starEach [.Name x px, .Name y py] X.env = (false, eval (.Name x px) X.env) :: starEach [.Name y py] X.env := by rfl) (h2 : starEach [.Name y py] X.env = (false, eval (.Name y py) X.env) :: starEach [] X.env := by rfl) :
    PS X (.Return (some (.Tuple [.Name x px, .Name y py] kt pt)) pos) (tS X.K W (retPair i j)) := by
  refine psTo (ps_ret (pe_tup (pa_cons hx (pa_cons hy pa_nil h2) h1))) fun D σ H ⟨h, ρ, e, R, q⟩ => ?_
  subst e
  unfold retPair at q
  split at q
  · rename_i xs ys e1 e2
    split at q
    · exact q.elim
    · rename_i hij
      obtain ⟨l, vs, ex, hl, fl, hd⟩ := own_now R e1
      obtain ⟨m, ws, ey, hm, fm, hd2⟩ := own_now R e2
      have hne := R.dis i j _ _ l m hij (slot_some e1 (by intro z; cases z)) (slot_some e2 (by intro z; cases z)) rfl rfl ex ey
      refine ⟨_, ex, _, ey, by show 2 ≤ sizeLine; decide, fun t ht => ?_⟩
      have hlt : l ≠ t := fun z => by rw [z, ht] at hl; cases hl
      have hmt : m ≠ t := fun z => by rw [z, ht] at hm; cases hm
      exact q (.ref t) (h.newO t (.tup [.ref l, .ref m])) (R.ch.newO ht) (Gr.newO R.ch ht).sg ⟨t, l, m, vs, ws, rfl, upd_same, hne, ⟨(upd_ne hlt).trans hl, fl, hd⟩, ⟨(upd_ne hmt).trans hm, fm, hd2⟩⟩
  · exact q.elim
def unpP (i j : Nat) : TF := fun r ρ => match r with
  | .p2 xs ys => .ok ((ρ.set i (.o xs)).set j (.o ys))
  | _ => .bad
theorem unpP_ne {i j : Nat} : ∀ r ρ c p, unpP i j r ρ ≠ .exc c p := by
  intro r ρ c p e
  unfold unpP at e
  split at e <;> cases e
theorem xgPair {i j : Nat} {x y : Str} {px py pt : Pos} {kt} (hc : X.calm = true) (hN : X.N.Nodup) (hij : i ≠ j) (hi : X.N[i]? = some x := by rfl) (hj : X.N[j]? = some y := by rfl) (hx : Loc X.env.scope x := by first | exact Or.inl rfl | exact Or.inr rfl) (hy : Loc X.env.scope y := by first | exact Or.inl rfl | exact Or.inr rfl)
    (hfx : X.fn x = true ∨ X.env.scope.names.lookup x = some .local := by first | exact .inl rfl | exact .inr rfl | assumption) (hfy : X.fn y = true ∨ X.env.scope.names.lookup y = some .local := by first | exact .inl rfl | exact .inr rfl | assumption)
    (hs1 : (assignEach [.Name x px, .Name y py] X.env).map (·.2) = assign (.Name x px) X.env :: (assignEach [.Name y py] X.env).map (·.2) := by rfl) (hs2 : (assignEach [.Name y py] X.env).map (·.2) = assign (.Name y py) X.env :: (assignEach [] X.env).map (·.2) := by rfl)
    (hn : (assignEach [.Name x px, .Name y py] X.env).length = 2 := by rfl) (hst : (assignEach [.Name x px, .Name y py] X.env).findIdx? (·.1) = none := by rfl) : PG X (.Tuple [.Name x px, .Name y py] kt pt) (tG X.K [i, j] (unpP i j)) := by
  refine pgTo (pg_tup (n := 2) hc (pgs_cons (pg_name hN hi hx hfx) (pgs_cons (pg_name hN hj hy hfy) pgs_nil hs2) hs1) hn hst) ?_
  rintro v σ H Q ⟨h0, h, ρ, r, ρ', eh, R0, R, ok, e, k⟩
  subst eh
  unfold unpP at e
  split at e
  · rename_i xs ys
    obtain ⟨t, l, m, vs, ws, rfl, ht, hne, ⟨n1, a1, b1, d1⟩, ⟨n2, a2, b2, d2⟩⟩ := ok
    cases e
    have R1 : Rel X.K h (ρ.set i (.o xs)) (σ.set i (some (.ref l))) := R.set i ⟨l, vs, rfl, a1, b1, d1⟩ fun k t' l' _ ev e1 o1 => by
      cases ev
      exact R0.fresh n1 e1 o1
    have R2 : Rel X.K h ((ρ.set i (.o xs)).set j (.o ys)) ((σ.set i (some (.ref l))).set j (some (.ref m))) := R1.set j ⟨m, ws, rfl, a2, b2, d2⟩ fun k t' l' _ ev e1 o1 => by
      cases ev
      by_cases hk : i = k
      · subst hk
        rw [List.getElem?_set]
        simp only [if_true]
        split
        · intro z
          cases z
          exact hne rfl
        · intro z
          cases z
      · rw [List.getElem?_set_ne hk] at e1
        rw [List.getElem?_set_ne hk]
        exact R0.fresh n2 e1 o1
    refine ⟨t, [.ref l, .ref m], rfl, .of ht, rfl, _, _, rfl, _, _, rfl, rfl, k _ R2 ⟨by simp, fun z hz => ?_⟩⟩
    rw [List.getElem?_set_ne (fun e => hz (by simp [e])), List.getElem?_set_ne (fun e => hz (by simp [e]))]
  · cases e
end
/-! ### a def that changes the list that is handed to it first, and tells it -/
structure CGm (G H : Hp) (l : Addr) (G' H' : Hp) : Prop where
  g : Ex G G'
  h : ∀ a o, a ≠ l → H a = some o → H' a = some o
  c : Ex G' H'
  n : ∀ a o, G' a = some o → G a = none → H a = none ∨ a = l
def fspM (K : PySem.W.Frag) (n : Nat) (g : List Sl → Fr) : Sp := fun vs H Q E => vs.length = n ∧ ∃ (G : Hp) (l : Addr) (ws : List V) (xs : List D) (vr : List V) (ds : List D), vs = .ref l :: vr ∧ Ex G H ∧ G l = none ∧ H l = some (.lst ws) ∧ DpAll K G ws xs ∧ DpAll K G vr ds ∧ match g (.o xs :: ds.map Sl.v) with
  | .ret (.o ys) => ∀ v G' H', CGm G H l G' H' → (∃ l' us, v = .ref l' ∧ (l' = l ∨ H l' = none) ∧ H' l' = some (.lst us) ∧ G' l' = none ∧ DpAll K G' us ys) → Q v H'
  | _ => False
section
variable {P : Program} {w : World} {K : PySem.W.Frag} {mg : Str → Option Value} {base : Heap}
def butl (H : Hp) (l : Addr) : Hp := fun a => if a = l then none else H a
theorem rel_startM {N : List Str} {G H : Hp} {l : Addr} {ws vr : List V} {xs ds : List D} (c : Ex G H) (gl : G l = none) (hl : H l = some (.lst ws)) (hd : DpAll K G ws xs) (ok : DpAll K G vr ds) (hn : (vr.length + 1) ≤ N.length) :
    Rel K ⟨G, butl H l, H⟩ ((.o xs :: ds.map Sl.v) ++ List.replicate (N.length - (ds.length + 1)) .u) (L2.start N (.ref l :: vr)) := by
  have el := ok.len
  have gf : Ex G (butl H l) := fun a o e => by
    unfold butl
    rw [if_neg (fun z => by rw [z, gl] at e; cases e)]
    exact c a o e
  have at' : ∀ {i : Nat} {s : Sl}, ((Sl.o xs :: ds.map Sl.v) ++ List.replicate (N.length - (ds.length + 1)) Sl.u)[i]? = some s → (i = 0 ∧ s = .o xs) ∨ (∃ j d, i = j + 1 ∧ ds[j]? = some d ∧ s = .v d) ∨ s = .u := fun {i s} e => by
    cases i with
    | zero =>
      left
      refine ⟨rfl, ?_⟩
      simpa using e.symm
    | succ j =>
      right
      rw [List.cons_append, List.getElem?_cons_succ, List.getElem?_append] at e
      split at e
      · left
        rw [List.getElem?_map] at e
        obtain ⟨d, e1, e2⟩ := Option.map_eq_some_iff.mp e
        exact ⟨j, d, rfl, e1, e2.symm⟩
      · right
        rw [List.getElem?_replicate] at e
        split at e
        · cases e; rfl
        · cases e
  refine ⟨⟨gf, fun a o e => ?_⟩, ?_, fun i s x e1 e2 => ?_, fun i j s t a b hij e1 e2 o1 o2 _ _ => ?_⟩
  · have e' : (if a = l then none else H a) = some o := e
    split at e'
    · cases e'
    · exact e'
  · unfold L2.start
    simp
    omega
  · rcases at' e1 with ⟨rfl, rfl⟩ | ⟨j, d, rfl, ed, rfl⟩ | rfl
    · have : x = some (.ref l) := by
        unfold L2.start at e2
        simp at e2
        exact e2.symm
      refine ⟨l, ws, this, hl, ?_, hd⟩
      show (if l = l then none else H l) = none
      rw [if_pos rfl]
    · obtain ⟨v, ev, dv⟩ := ok.get ed
      refine ⟨v, ?_, dv⟩
      unfold L2.start at e2
      have hi : j + 1 < (V.ref l :: vr).length := by
        have := (List.getElem?_eq_some_iff.mp ev).1
        simp
        omega
      rw [List.getElem?_append_left (by simpa using hi), List.getElem?_map, List.getElem?_cons_succ, ev] at e2
      cases e2
      rfl
    · trivial
  · exfalso
    rcases at' e1 with ⟨rfl, rfl⟩ | ⟨j', d, rfl, ed, rfl⟩ | rfl
    · rcases at' e2 with ⟨rfl, rfl⟩ | ⟨j'', d', rfl, ed', rfl⟩ | rfl
      · exact hij rfl
      · cases o2
      · cases o2
    · cases o1
    · cases o1
theorem fn_okM {cm : Str → Addr} {x qual : Str} {st : Stmt} {f : Addr} {fd : FuncData} {N ps : List Str} {k : Nat} {bf : SF} (F : Fun K x qual st f fd) (S : FnScope N ps (defScope st)) (hps : ps.length ≤ N.length)
    (body : ∀ (cdv : Value) (A : Around) (outer : List PySem.Env) (s : Shared) (H : Hp) (E : XK), Room k (A.deeper (envOfC qual (defScope st) s.heap.objs.size f cdv)) →
      PSs (bodyCx P w K mg base N qual st f cdv A outer s H E) (defBody st) (tS K (WFx K cm fun cls d _ H => E cls d H) bf)) :
    FnOk P w K mg base (L2.CX P w) (k + 1) f fd ps (fspM K ps.length (fnR bf N.length)) := by
  refine F.okX S (fun vs H Q E h => h.1) fun cdv A outer s H vs Q E hr h => ⟨_, body cdv A outer s H E hr, ?_⟩
  obtain ⟨hl, G, l, ws, xs, vr, ds, rfl, c, gl, hH, hd, ok, q⟩ := h
  have el := ok.len
  have R := rel_startM (N := N) c gl hH hd ok (by simp at hl; omega)
  refine ⟨⟨G, butl H l, H⟩, _, rfl, R, ?_⟩
  unfold fnR at q
  have e0 : (Sl.o xs :: ds.map Sl.v).length = ds.length + 1 := by simp
  rw [e0] at q
  cases e : bf ((Sl.o xs :: ds.map Sl.v) ++ List.replicate (N.length - (ds.length + 1)) .u) with
  | ret r =>
    rw [e] at q
    intro v h' c' g' ok'
    cases r with
    | o ys =>
      obtain ⟨l', us, ev, a, b, d⟩ := ok'
      have hf : ∀ a : Addr, butl H l a = none → a = l ∨ H a = none := fun a z => by
        unfold butl at z
        split at z
        · left; assumption
        · right; exact z
      refine q v h'.G h'.H ⟨g'.g, fun a o hne e => ?_, c'.gh, fun a o e z => ?_⟩ ⟨l', us, ev, hf l' (g'.f.back b), a, c'.gf.back b, d⟩
      · refine c'.fh a o (g'.f a o ?_)
        show (if a = l then none else H a) = some o
        rw [if_neg hne]
        exact e
      · rcases hf a (g'.gn a o e z) with z | z
        · exact .inr z
        · exact .inl z
    | _ => exact q.elim
  | _ => rw [e] at q; exact q.elim
end
section
variable {X : Cx} {W : WF} {cm : Str → Addr}
/-- return F(a, G(b, ..)): a stays, b is the list that G changes -/
def retX (k : Nat) (F : List Sl → Fr) (i : Nat) (G : List Sl → Fr) (r : AF) : SF := fun ρ => match slot ρ k, slot ρ i with
  | .v da, .o xs => (match r ρ with
    | .ok rs => (match allV rs with
      | some ds => (match G (.o xs :: ds.map Sl.v) with
        | .ret (.o ys) => (match F [.v da, .v (.list ys)] with
          | .ret (.v d) => .ret (.v d)
          | _ => .bad)
        | _ => .bad)
      | none => .bad)
    | _ => .bad)
  | _, _ => .bad
theorem xretX {k i kF kG : Nat} {fF fG : Addr} {fdF fdG : FuncData} {psF psG : List Str} {gF gG : List Sl → Fr} {x y a b : Str} {p1 p2 p3 p4 pa pb pos : Pos} {es : List Expr} {r : AF} (tk : Tk X cm W)
    (FF : FnOk X.prog X.w X.K X.mg X.base (L2.CX X.prog X.w) kF fF fdF psF (fsp X.K cm psF.length gF)) (hrF : Room kF X.A) (hgF : Gl X x) (hmF : X.mg x = some (.ref fF)) (hkF : PySem.W.keepIn X.K (.ref fF) = true) (hbF : Binds X.K fdF psF []) (hlF : psF.length = 2)
    (FG : FnOk X.prog X.w X.K X.mg X.base (L2.CX X.prog X.w) kG fG fdG psG (fspM X.K psG.length gG)) (hrG : Room kG X.A) (hgG : Gl X y) (hmG : X.mg y = some (.ref fG)) (hkG : PySem.W.keepIn X.K (.ref fG) = true) (hbG : Binds X.K fdG psG []) (hlG : psG.length = es.length + 1)
    (ha : PE X (.Name a pa) (tVar k)) (hb : PE X (.Name b pb) (tVar i)) (har : PA X es (tXa X.K W r)) (hrl : ∀ ρ rs, r ρ = .ok rs → rs.length = es.length) (hdF : (x == ("__debug__" : Str)) = false := by decide) (hdG : (y == ("__debug__" : Str)) = false := by decide)
    (s1 : starEach [.Name a pa, .Call (.Name y p3) (.Name b pb :: es) [] p4] X.env = (false, eval (.Name a pa) X.env) :: starEach [.Call (.Name y p3) (.Name b pb :: es) [] p4] X.env := by rfl) (s2 : starEach [.Call (.Name y p3) (.Name b pb :: es) [] p4] X.env = (false, eval (.Call (.Name y p3) (.Name b pb :: es) [] p4) X.env) :: starEach [] X.env := by rfl)
    (s3 : starEach (.Name b pb :: es) X.env = (false, eval (.Name b pb) X.env) :: starEach es X.env := by rfl) (hpl : (backTo p4 (starEach es X.env)).any (·.1) = false := by rfl) (hpl2 : (backTo p2 (starEach [.Call (.Name y p3) (.Name b pb :: es) [] p4] X.env)).any (·.1) = false := by rfl) :
    PS X (.Return (some (.Call (.Name x p1) [.Name a pa, .Call (.Name y p3) (.Name b pb :: es) [] p4] [] p2)) pos) (tS X.K W (retX k gF i gG r)) := by
  obtain ⟨Wx, tk, hW⟩ := tk
  have pG := pe_callS (pos := p4) (p := p3) FG hrG hgG hmG hkG hbG (E := WE Wx) (fun σ => passAt tk σ) (pa_cons hb har s3) hdG s3 hpl
  refine psTo (ps_ret (pe_callS FF hrF hgF hmF hkF hbF (E := WE Wx) (fun σ => passAt tk σ) (pa_cons ha (pa_cons pG pa_nil s2) s1) hdF s1 hpl2)) fun D σ H ⟨h, ρ, e, R, q⟩ => ?_
  subst e
  unfold retX at q
  split at q
  rotate_left
  · exact q.elim
  rename_i da xs ek ei
  split at q
  rotate_left
  · exact q.elim
  rename_i rs er
  split at q
  rotate_left
  · exact q.elim
  rename_i ds eds
  split at q
  rotate_left
  · exact q.elim
  rename_i ys eG
  split at q
  rotate_left
  · exact q.elim
  rename_i d eF
  obtain ⟨xv, exv, v, rfl, hda⟩ := R.get (slot_some ek (by intro z; cases z))
  obtain ⟨l, ws, ex, hl, fl, hd⟩ := own_now R ei
  refine ⟨v, exv, _, ex, h, ρ, rfl, R, ?_⟩
  rw [er]
  intro vs h1 R1 g1 ok1
  have hds := allV_ok R1.ch eds ok1
  obtain ⟨l1, ws1, ex1, hl1, fl1, hd1⟩ := own_now R1 ei
  rw [ex] at ex1
  cases ex1
  have hlen : vs.length = es.length := by rw [ok1.len, hrl ρ rs er]
  refine ⟨by simp [hlG, hlen], h1.G, l, ws1, xs, vs, ds, rfl, R1.ch.gh, R1.ch.gf.back fl1, hl1, hd1, hds, ?_⟩
  rw [eG]
  intro v2 G' H' cg ⟨l2, us, ev2, hl2, hH2, hG2, hd2⟩
  subst ev2
  have eG2 : Ex G' (upd G' l2 (.lst us)) := Ex.new hG2
  have eH2 : Ex (upd G' l2 (.lst us)) H' := fun c o e => by
    by_cases hc : c = l2
    · subst hc
      rw [upd_same] at e
      cases e
      exact hH2
    · rw [upd_ne hc] at e
      exact cg.c c o e
  refine ⟨by simp [hlF], upd G' l2 (.lst us), [.v da, .v (.list ys)], eH2, ⟨ex_dp (g1.g.trans (cg.g.trans eG2)) hda, .lst (.of upd_same) (ex_dpa eG2 hd2), trivial⟩, ?_⟩
  rw [eF]
  intro v3 G3 H3 cg3 ok3
  have hlF' : ∀ c o, h.F c = some o → H3 c = some o := fun c o e => by
    have hne : c ≠ l := fun z => by rw [z, fl] at e; cases e
    exact cg3.h c o (cg.h c o hne (g1.x c o (R.ch.fh c o e)))
  refine q v3 ⟨G3, fun c => match h.F c with | some o => some o | none => G3 c, H3⟩ ⟨fun c o e => ?_, fun c o e => ?_⟩ ⟨(g1.g.trans (cg.g.trans eG2)).trans cg3.g, fun c o e => ?_, fun c o e z => ?_⟩ ok3
  · show (match h.F c with | some o => some o | none => G3 c) = some o
    cases z : h.F c with
    | none => exact e
    | some u =>
      have e1 := hlF' c u z
      rw [cg3.c c o e] at e1
      exact e1.symm
  · have e' : (match h.F c with | some o => some o | none => G3 c) = some o := e
    cases z : h.F c with
    | none =>
      rw [z] at e'
      exact cg3.c c o e'
    | some u =>
      rw [z] at e'
      cases e'
      exact hlF' c _ z
  · show (match h.F c with | some o => some o | none => G3 c) = some o
    rw [e]
  · cases y : h.F c with
    | none => rfl
    | some u =>
      exfalso
      have hne : c ≠ l := fun z => by rw [z, fl] at y; cases y
      have y1 := g1.x c u (R.ch.fh c u y)
      have y2 := cg.h c u hne y1
      cases z2 : (upd G' l2 (.lst us)) c with
      | none =>
        have := cg3.n c o e z2
        rw [y2] at this
        cases this
      | some u2 =>
        by_cases hc : c = l2
        · subst hc
          rcases hl2 with z3 | z3
          · exact hne z3
          · rw [y1] at z3
            cases z3
        · rw [upd_ne hc] at z2
          cases z4 : h1.G c with
          | none =>
            rcases cg.n c u2 z2 z4 with z5 | z5
            · rw [y1] at z5
              cases z5
            · exact hne z5
          | some u4 =>
            have := g1.gn c u4 z4 z
            rw [y] at this
            cases this
end
end Sq

/-! Defs with defaults, called positionally. -/
namespace Sq
open PySem PySem.Spec PyProof.Rows L2
section
variable {P : Program} {w : World} {K : PySem.W.Frag} {mg : Str → Option Value} {base : Heap}
theorem fn_okD {cm : Str → Addr} {x qual : Str} {st : Stmt} {f : Addr} {fd : FuncData} {dvs : List V} {kws : List (Str × V)} {N ps : List Str} {k : Nat} {bf : SF} (F : FunD K x qual (defArgs st) (defBody st) (defScope st) dvs kws f fd) (S : FnScope N ps (defScope st)) (hps : ps.length ≤ N.length)
    (body : ∀ (cdv : Value) (A : Around) (outer : List PySem.Env) (s : Shared) (H : Hp) (E : XK), Room k (A.deeper (envOfC qual (defScope st) s.heap.objs.size f cdv)) →
      PSs (bodyCx P w K mg base N qual st f cdv A outer s H E) (defBody st) (tS K (WFx K cm fun cls d _ H => E cls d H) bf)) :
    FnOk P w K mg base (L2.CX P w) (k + 1) f fd ps (fsp K cm ps.length (fnR bf N.length)) := by
  refine F.ok S (fun vs H Q E h => h.1) fun cdv A outer s H vs Q E hr h => ⟨_, body cdv A outer s H E hr, ?_⟩
  obtain ⟨hl, G, as, c, ok, q⟩ := h
  have R := rel_start (N := N) c ok (by omega)
  refine ⟨⟨G, H, H⟩, _, rfl, R, ?_⟩
  unfold fnR at q
  cases e : bf (as ++ List.replicate (N.length - as.length) .u) with
  | bad => rw [e] at q; exact q.elim
  | brk _ => rw [e] at q; exact q.elim
  | cont _ => rw [e] at q; exact q.elim
  | next ρ' =>
    rw [e] at q
    exact fun σ' h' R' g' => q .non h'.G h'.H (cg_of R'.ch g') .non
  | ret r =>
    rw [e] at q
    intro v h' c' g' ok'
    refine q v h'.G h'.H (cg_of c' g') ?_
    cases r with
    | v d => exact ok'
    | b d => exact ex_dp c'.fh ok'
    | o xs =>
      obtain ⟨l, vs, ev, a, b, d⟩ := ok'
      exact ⟨l, vs, ev, g'.f.back b, a, c'.gf.back b, d⟩
    | ok xs =>
      obtain ⟨l, vs, ev, a, b, d⟩ := ok'
      exact ⟨l, vs, ev, g'.f.back b, a, c'.gf.back b, d⟩
    | p2 xs ys =>
      obtain ⟨t, l, m, vs, ws, ev, ht, ne, ⟨a, b, d⟩, ⟨a2, b2, d2⟩⟩ := ok'
      exact ⟨t, l, m, vs, ws, ev, ht, ne, ⟨g'.f.back b, a, c'.gf.back b, d⟩, ⟨g'.f.back b2, a2, c'.gf.back b2, d2⟩⟩
    | _ => exact ok'.elim
  | exc c p ρ' =>
    rw [e] at q
    cases p with
    | none => exact fun σ' h' R' g' => q h'.G h'.H (cg_of R'.ch g')
    | some p =>
      obtain ⟨ff, xx⟩ := p
      exact fun σ' h' R' g' d v hd hv => q h'.G h'.H d v (cg_of R'.ch g') hd hv
theorem binds_nil {fd : FuncData} {ps : List Str} (h : ∃ ds, Vals [] ds ∧ Binds K fd ps ds) : Binds K fd ps [] := by
  obtain ⟨ds, v, b⟩ := h
  cases v
  exact b
/-- one def with one default of the written part -/
theorem fund_mk {x qual : Str} {st : Stmt} {f T : Addr} {oc ocT : Value} {od odT an : Option Addr} {osl slT : Array (Option Value)} {kV doc pm cdv ct u : Value} {n : Nat} {v : V} (l : K.lookup f = some ⟨oc, od, .func (PySem.W.fnOf x qual (defArgs st) (defBody st) (defScope st) (.ref T) kV doc pm an cdv ct), osl⟩)
    (lT : K.lookup T = some ⟨ocT, odT, .seq #[u] n, slT⟩) (r : RelV v u) (c : PySem.W.codeIn K cdv qual = true) (k : PySem.W.keepIn K (.ref f) = true) : FunD K x qual (defArgs st) (defBody st) (defScope st) [v] [] f (PySem.W.fnOf x qual (defArgs st) (defBody st) (defScope st) (.ref T) kV doc pm an cdv ct) :=
  ⟨⟨oc, od, .ref T, kV, doc, pm, an, cdv, ct, osl, rfl, l, c, Or.inr ⟨(by intro z; cases z), ⟨T, _, [u], n, rfl, lT, rfl, .cons r .nil⟩⟩, Or.inl rfl⟩, k⟩
end
section
variable {X : Cx} {W : WF} {cm : Str → Addr}
def aDef (dd : List D) (r : AF) : AF := fun ρ => (r ρ).bind fun rs => .ok (rs ++ dd.map Rv.v)
@[simp] theorem aDef_e (dd : List D) (r : AF) (ρ : Env) : aDef dd r ρ = (r ρ).bind fun rs => .ok (rs ++ dd.map Rv.v) := (rfl)
theorem rvs_app {K : PySem.W.Frag} {h : Hs} : ∀ {vs : List V} {rs : List Rv} {ws : List V} {ss : List Rv}, RvsOk K h vs rs → RvsOk K h ws ss → RvsOk K h (vs ++ ws) (rs ++ ss)
  | [], [], _, _, _, b => b
  | _ :: _, _ :: _, _, _, ⟨a, as⟩, b => ⟨a, rvs_app as b⟩
theorem rvs_v {K : PySem.W.Frag} {h : Hs} : ∀ {ws : List V} {dd : List D}, DpAll K h.G ws dd → RvsOk K h ws (dd.map .v)
  | _, _, .nil => trivial
  | _, _, .cons a b => ⟨a, rvs_v b⟩
theorem xcallD {ds : List Value} {dvs : List V} {dd : List D} {k : Nat} {f : Addr} {fd : FuncData} {ps : List Str} {g : List Sl → Fr} {x : Str} {p pos : Pos} {e : Expr} {es : List Expr} {r : AF} (tk : Tk X cm W) (F : FnOk X.prog X.w X.K X.mg X.base (L2.CX X.prog X.w) k f fd ps (fsp X.K cm ps.length g)) (hr : Room k X.A) (hg : Gl X x) (hm : X.mg x = some (.ref f)) (hk : PySem.W.keepIn X.K (.ref f) = true) (hb : Binds X.K fd ps ds) (hd : Vals dvs ds) (hdd : ∀ G : Hp, DpAll X.K G dvs dd)
    (hlen : ps.length = (e :: es).length + dd.length) (ha : PA X (e :: es) (tXa X.K W r)) (hrl : ∀ ρ rs, r ρ = .ok rs → rs.length = (e :: es).length) (hdb : (x == ("__debug__" : Str)) = false := by decide) (he : starEach (e :: es) X.env = (false, eval e X.env) :: starEach es X.env := by rfl) (hpl : (backTo pos (starEach es X.env)).any (·.1) = false := by rfl) :
    PE X (.Call (.Name x p) (e :: es) [] pos) (tX X.K W (callF g (aDef dd r))) := by
  obtain ⟨Wx, tk, hW⟩ := tk
  refine peTo (pe_callSD F hr hg hm hk hb hd (E := WE Wx) (fun σ => passAt tk σ) ha hdb he hpl) fun σ H Q q => ?_
  obtain ⟨h, ρ, rfl, R, q⟩ := tX_iff.mp q
  have q : PE1 X.K W h ρ σ Q ((r ρ).bind fun rs => (g ((rs ++ dd.map Rv.v).map Rv.sl)).rv) := by
    unfold callF aDef at q
    cases er : r ρ with
    | ok rs => rw [er] at q; exact q
    | exc c p => rw [er] at q; exact q
    | bad => rw [er] at q; exact q
  refine ⟨h, ρ, rfl, R, PE1.bindA q fun rs vs h1 er R1 g1 ok1 q1 => ?_⟩
  have okk := rvs_app ok1 (rvs_v (hdd h1.G))
  have hdl : dvs.length = dd.length := (hdd h1.G).len
  refine ⟨by rw [List.length_append, ok1.len, hrl ρ rs er, hdl, hlen], h1.G, (rs ++ dd.map Rv.v).map Rv.sl, R1.ch.gh, args_of R1.ch okk, ?_⟩
  cases eg : g ((rs ++ dd.map Rv.v).map Rv.sl) with
  | bad => rw [eg] at q1; exact q1.elim
  | exc c p =>
    rw [eg] at q1
    cases p with
    | none =>
      intro G' H' cg
      obtain ⟨gr, ch⟩ := call_gr R1.ch cg
      exact hW _ _ _ _ (q1 (h1.call G' H') (R1.grow gr ch) gr)
    | some p =>
      obtain ⟨ff, xx⟩ := p
      intro G' H' d v cg hd hv
      obtain ⟨gr, ch⟩ := call_gr R1.ch cg
      exact hW _ _ _ _ (q1 (h1.call G' H') (R1.grow gr ch) gr) d v hd hv
  | ret res =>
    rw [eg] at q1
    intro v G' H' cg ok'
    obtain ⟨gr, ch⟩ := call_gr R1.ch cg
    have R2 := R1.grow gr ch
    cases res with
    | v d => exact q1 v (h1.call G' H') R2 gr ok'
    | b d => exact q1 v (h1.call G' H') R2 gr ok'
    | o xs =>
      obtain ⟨l, ws, ev, n, a, b, d⟩ := ok'
      refine q1 v (h1.call G' H') R2 gr ⟨l, ws, ev, n, a, ?_, d⟩
      show (match h1.F l with | some o => some o | none => G' l) = none
      rw [R1.ch.fh.back n]
      exact b
    | ok xs =>
      obtain ⟨l, ws, ev, n, a, b, d⟩ := ok'
      refine q1 v (h1.call G' H') R2 gr ⟨l, ws, ev, n, a, ?_, d⟩
      show (match h1.F l with | some o => some o | none => G' l) = none
      rw [R1.ch.fh.back n]
      exact b
    | p2 xs ys =>
      obtain ⟨t, l, m, vs', ws, ev, ht, ne, ⟨n, a, b, d⟩, ⟨n2, a2, b2, d2⟩⟩ := ok'
      refine q1 v (h1.call G' H') R2 gr ⟨t, l, m, vs', ws, ev, ht, ne, ⟨n, a, ?_, d⟩, ⟨n2, a2, ?_, d2⟩⟩
      · show (match h1.F l with | some o => some o | none => G' l) = none
        rw [R1.ch.fh.back n]
        exact b
      · show (match h1.F m with | some o => some o | none => G' m) = none
        rw [R1.ch.fh.back n2]
        exact b2
    | _ => exact q1.elim
end
end Sq

/-! x in a tuple, nested data. -/
namespace Sq
open PySem PySem.Spec PyProof.Rows L2
section
variable {X : Cx} {W : WF} {a b : Expr} {f g : EF} {pos : Pos}
def rInDT (K : PySem.W.Frag) : R2 := fun x y H Q => ∃ d ds, Dp K H x d ∧ Dp K H y (.tuple ds) ∧ SeqAt.shaped d = true ∧ SeqAt.shaped (.tuple ds) = true ∧ Q (.bl (ds.any fun z => PyData.eqv z d)) H
def rNotInDT (K : PySem.W.Frag) : R2 := fun x y H Q => ∃ d ds, Dp K H x d ∧ Dp K H y (.tuple ds) ∧ SeqAt.shaped d = true ∧ SeqAt.shaped (.tuple ds) = true ∧ Q (.bl (!ds.any fun z => PyData.eqv z d)) H
theorem op_inDT (hu : X.A.units + 65 < cLine) : OpR X (compareOp .In) (rInDT X.K) := by
  intro pins s σ H x y v u Q I rx ry h
  obtain ⟨d, ds, hd, he, sd, se, q⟩ := h
  obtain ⟨as, r1⟩ := Dp.reads I d x v hd rx
  obtain ⟨bs, r2⟩ := Dp.reads I (.tuple ds) y u he ry
  exact SeqAt.in_tuple_reads r2 r1 (SeqAt.canLay_of_shaped se) (SeqAt.canLay_of_shaped sd) (room_in_shaped sd hu) ⟨.bl _, H, I, rfl, q⟩
theorem op_notInDT (hu : X.A.units + 65 < cLine) : OpR X (compareOp .NotIn) (rNotInDT X.K) := by
  intro pins s σ H x y v u Q I rx ry h
  obtain ⟨d, ds, hd, he, sd, se, q⟩ := h
  obtain ⟨as, r1⟩ := Dp.reads I d x v hd rx
  obtain ⟨bs, r2⟩ := Dp.reads I (.tuple ds) y u he ry
  exact SeqAt.notIn_tuple_reads r2 r1 (SeqAt.canLay_of_shaped se) (SeqAt.canLay_of_shaped sd) (room_in_shaped sd hu) ⟨.bl _, H, I, rfl, q⟩
def inDeepT (n : Bool) (a b : Rv) : Er Rv := match a.dat, b.dat with
  | some x, some (.tuple ys) => if SeqAt.shaped x = true ∧ SeqAt.shaped (.tuple ys) = true then .ok (.v (.bool (if n then !(ys.any fun z => PyData.eqv z x) else ys.any fun z => PyData.eqv z x))) else .bad
  | _, _ => .bad
theorem ok_inDeepT {K : PySem.W.Frag} : OpOk K W (inDeepT false) (rInDT K) := by
  intro h0 h ρ σ x y a b Q R0 R g oka okb q
  unfold inDeepT at q
  split at q
  · rename_i d ys ea eb
    split at q
    · rename_i hc
      exact ⟨d, ys, oka.dp R.ch ea, okb.dp R.ch eb, hc.1, hc.2, q.now R (.bl _)⟩
    · exact q.elim
  · exact q.elim
theorem ok_notInDeepT {K : PySem.W.Frag} : OpOk K W (inDeepT true) (rNotInDT K) := by
  intro h0 h ρ σ x y a b Q R0 R g oka okb q
  unfold inDeepT at q
  split at q
  · rename_i d ys ea eb
    split at q
    · rename_i hc
      exact ⟨d, ys, oka.dp R.ch ea, okb.dp R.ch eb, hc.1, hc.2, q.now R (.bl _)⟩
    · exact q.elim
  · exact q.elim
def inB (n : Bool) : Rv → Rv → Er Rv := alt (inA n) (inDeepT n)
theorem xinB (hu : X.A.units + 80 < cLine) (ha : PE X a (tX X.K W f)) (hb : PE X b (tX X.K W g)) (hm : behindInMarks .In b = false := by first | exact nobehind _ (by decide) (by decide) | rfl) : PE X (.Compare a [.In] [b] pos) (tX X.K W (binF (inB false) f g)) :=
  xaltE (xinA hu ha hb hm) (xcmp (op_inDT (hu65 hu)) ok_inDeepT ha hb hm)
theorem xnotinB (hu : X.A.units + 80 < cLine) (ha : PE X a (tX X.K W f)) (hb : PE X b (tX X.K W g)) (hm : behindInMarks .NotIn b = false := by first | exact nobehind _ (by decide) (by decide) | rfl) : PE X (.Compare a [.NotIn] [b] pos) (tX X.K W (binF (inB true) f g)) :=
  xaltE (xnotinA hu ha hb hm) (xcmp (op_notInDT (hu65 hu)) ok_notInDeepT ha hb hm)
theorem xtinB (hu : X.A.units + 80 < cLine) (ha : PE X a (tX X.K W f)) (hb : PE X b (tX X.K W g)) (hm : behindInMarks .In b = false := by first | exact nobehind _ (by decide) (by decide) | rfl) : PT X (.Compare a [.In] [b] pos) (tXt X.K W (tstF (binF (inB false) f g))) :=
  xaltT (xtinA hu ha hb hm) (xtcmp (op_inDT (hu65 hu)) ok_inDeepT ha hb hm)
theorem xtnotinB (hu : X.A.units + 80 < cLine) (ha : PE X a (tX X.K W f)) (hb : PE X b (tX X.K W g)) (hm : behindInMarks .NotIn b = false := by first | exact nobehind _ (by decide) (by decide) | rfl) : PT X (.Compare a [.NotIn] [b] pos) (tXt X.K W (tstF (binF (inB true) f g))) :=
  xaltT (xtnotinA hu ha hb hm) (xtcmp (op_notInDT (hu65 hu)) ok_notInDeepT ha hb hm)
end
end Sq

/-! list.count of whole numbers; d.get(k, x). -/
namespace Sq
open PySem PySem.Spec PyProof.Rows L2
section
variable {K : PySem.W.Frag} {W : WF} {X : Cx} {f g k : EF}
def countF (f g : EF) : EF := fun ρ => (f ρ).bind fun a => match a.dat with
  | some (.list ys) => (match dInts ys with
    | some ns => (g ρ).bind fun b => (match b.dat with
      | some (.int j) => .ok (.v (.int (ns.count j : Nat)))
      | _ => .bad)
    | none => .bad)
  | _ => .bad
theorem xcount {s : Expr} (he : PE X s (tBM X.K "list" (rCntI X.K) (tX X.K W f) (tCons (tX X.K W g) tNil))) : PE X s (tX X.K W (countF f g)) := by
  refine peTo he fun σ H Q q => ?_
  obtain ⟨h, ρ, rfl, R, q⟩ := tX_iff.mp q
  refine (tX_mk (f := f) R (q.bind fun a x h1 ea R1 g1 ok1 q1 => ?_) : tX X.K W f σ h.H _)
  split at q1
  · rename_i xs exs
    obtain ⟨p1, vs, rfl, s1, d1⟩ := dp_lst (ok1.dp R1.ch exs)
    split at q1
    · rename_i ns ens
      refine ⟨.inl ⟨rfl, vs, s1⟩, ?_⟩
      refine (tX_mk (f := g) R1 (q1.bind fun b y h2 _ R2 g2 ok2 q2 => ?_) : tX X.K W g σ h1.H _)
      split at q2
      · rename_i j ej
        have hy := dp_int (ok2.dp R2.ch ej)
        subst hy
        have hv := dInts_v ens d1
        subst hv
        exact ⟨p1, ns, j, rfl, rfl, ex_l g2.x s1, q2.now R2 (.int _)⟩
      · exact q2.elim
    · exact q1.elim
  · exact q1.elim
def getF (f g k : EF) : EF := fun ρ => (f ρ).bind fun a => match a with
  | .wk kvs => (g ρ).bind fun b => (k ρ).bind fun c => (match b.dat.bind keyD, c with
    | some q, .v d0 => (match getK kvs q with
      | some d => .ok (.v d)
      | none => .ok (.v d0))
    | _, _ => .bad)
  | _ => .bad
theorem xgetD {a b c : Expr} {apos cpos : Pos} (hu : X.A.units + 1 < cLine) (ha : PE X a (tX X.K W f)) (hb : PE X b (tX X.K W g)) (hc : PE X c (tX X.K W k)) (m : M2 X a "get" apos b c cpos := by exact ⟨rfl, rfl, rfl, rfl⟩) : PE X (.Call (.Attribute a "get" apos) [b, c] [] cpos) (tX X.K W (getF f g k)) := by
  refine peTo (pe_dget2 hu ha hb hc m) fun σ H Q q => ?_
  obtain ⟨h, ρ, rfl, R, q⟩ := tX_iff.mp q
  refine (tX_mk (f := f) R (q.bind fun a x h1 ea R1 g1 ok1 q1 => ?_) : tX X.K W f σ h.H _)
  split at q1
  · rename_i kvs
    obtain ⟨l, vs, ex, hl, kd⟩ := id ok1
    subst ex
    refine ⟨l, rfl, .inl ⟨vs, .inl hl⟩, ?_⟩
    refine (tX_mk (f := g) R1 (q1.bind fun b y h2 _ R2 g2 ok2 q2 => ?_) : tX X.K W g σ h1.H _)
    refine (tX_mk (f := k) R2 (q2.bind fun c z h3 _ R3 g3 ok3 q3 => ?_) : tX X.K W k σ h2.H _)
    split at q3
    · rename_i kk d0 ek _
      obtain ⟨p, o, ep, dg, ho⟩ := dget_ok R3.ch ek (ok2.grow g3) ((ok1.grow g2).grow g3)
      cases ep
      refine ⟨o, dg, ?_⟩
      rcases ho with ⟨v, d, e1, e2, e3⟩ | ⟨e1, e2⟩
      · rw [e2] at q3
        subst e1
        exact q3.now R3 e3
      · rw [e2] at q3
        subst e1
        exact q3.now R3 ok3
    · exact q3.elim
  · exact q1.elim
end
end Sq

/-! len(set(xs)) of whole numbers that are unlike one another. -/
namespace Sq
open PySem PySem.Spec PyProof.Rows L2 RZ
section
variable {K : PySem.W.Frag} {W : WF} {X : Cx} {f : EF}
def lenSetF (f : EF) : EF := fun ρ => (f ρ).bind fun a => match a.dat with
  | some (.list ys) => (match dInts ys with
    | some ns => if ns.Nodup ∧ ns.length ≤ 4000 then .ok (.v (.int (ns.length : Nat))) else .bad
    | none => .bad)
  | _ => .bad
theorem xlenSet {a : Expr} {p p2 q pos : Pos} (hg : Gl X "len") (hm : X.mg "len" = none) (hg2 : Gl X "set") (hm2 : X.mg "set" = none) (ha : PE X a (tX X.K W f)) (hc : X.calm = true := by rfl)
    (na : starEach [a] X.env = (false, eval a X.env) :: starEach [] X.env := by rfl) : PE X (.Call (.Name "len" p) [.Call (.Name "set" p2) [a] [] q] [] pos) (tX X.K W (lenSetF f)) := by
  refine peTo (pe_lenSetI hg hm hg2 hm2 ha hc na) fun σ H Q q => ?_
  obtain ⟨h, ρ, rfl, R, q⟩ := tX_iff.mp q
  refine (tX_mk (f := f) R (q.bind fun a x h1 ea R1 g1 ok1 q1 => ?_) : tX X.K W f σ h.H _)
  split at q1
  · rename_i xs exs
    obtain ⟨p1, vs, rfl, s1, d1⟩ := dp_lst (ok1.dp R1.ch exs)
    split at q1
    · rename_i ns ens
      split at q1
      · rename_i hn
        have ev := dInts_v ens d1
        subst ev
        exact ⟨p1, ns, rfl, s1, hn.1, hn.2, q1.now R1 (.int _)⟩
      · exact q1.elim
    · exact q1.elim
  · exact q1.elim
/-! sorted(xs), xs nested data that is lent -/
variable {a : Expr} {p pos : Pos}
def sortBR (a : Rv) : Er Rv := match a with
  | .b (.list ds) => if alikeB ds = true ∧ PyData.depthAll ds ≤ 60 ∧ (listsB ds || tupsB ds) = true then .ok (.b (.list (sortD ds))) else .bad
  | _ => .bad
theorem xsortedBR (hu : X.A.units + 80 < cLine) (hg : Gl X "sorted") (hm : X.mg "sorted" = none) (ha : PE X a (tX X.K W f)) (hs : starEach [a] X.env = (false, eval a X.env) :: starEach [] X.env := by rfl) : PE X (.Call (.Name "sorted" p) [a] [] pos) (tX X.K W (unF sortBR f)) := by
  refine peTo (pe_callB (cr_sortDt hu) hg hm boot_sorted (pa_cons ha pa_nil hs) (he := hs)) (c1_of fun h0 h ρ σ x a Q R0 R g ok q => ?_)
  unfold sortBR at q
  split at q
  · rename_i ds
    split at q
    · rename_i hc2
      obtain ⟨hc2, hc3, hc4⟩ := hc2
      obtain ⟨l, vs, rfl, s, da⟩ := dp_lst (show Dp X.K h.F x (.list ds) from ok)
      have hal := alikeB_all hc2
      refine ⟨l, vs, ds, rfl, ex_l R.ch.fh s, ex_dpa R.ch.fh da, fun x hx y hy => hal.1 x hx y hy, ?_, hc3, fun p hp => ?_⟩
      · rw [Bool.or_eq_true] at hc4
        rcases hc4 with z | z
        · exact sortable_lists z
        · exact sortable_tups z
      · obtain ⟨z1, z2, z3⟩ := dpa_zip da
        have e2 : sortD ds = ((vs.zip ds).mergeSort (PySem.W.dataLe false fun z : VD => z.2)).map (·.2) := by
          unfold sortD
          conv => lhs; rw [← z3]
          exact (List.map_mergeSort (f := fun z : VD => z.2) fun a _ b _ => rfl).symm
        refine PE1.newLB (xs := sortD ds) q R ?_ hp
        rw [e2]
        exact dpa_pairs fun z hz => z1 z ((List.mergeSort_perm _ _).mem_iff.mp hz)
    · exact q.elim
  · exact q.elim
def sortLn : Rv → Er Rv := alt1 sortA sortBR
theorem xsortedLn (hu : X.A.units + 80 < cLine) (hg : Gl X "sorted") (hm : X.mg "sorted" = none) (ha : PE X a (tX X.K W f)) (hs : starEach [a] X.env = (false, eval a X.env) :: starEach [] X.env := by rfl) : PE X (.Call (.Name "sorted" p) [a] [] pos) (tX X.K W (unF sortLn f)) :=
  xalt1 (xsortedA hu hg hm ha hs) (xsortedBR hu hg hm ha hs)
/-! s.index(t) of texts -/
variable {b : Expr} {g : EF}
def sindexR (s : Str) (b : Rv) : Er Rv := match b.dat with
  | some (.str t) => (match Builtin.Str.occurrences s t 0 s.length 1 with
    | i :: _ => .ok (.v (.int (i : Nat)))
    | [] => .bad)
  | _ => .bad
theorem xsindex {apos : Pos} (ha : PE X a (tX X.K W f)) (hb : PE X b (tX X.K W g)) (hs : starEach [b] X.env = [(false, eval b X.env)] := by rfl) (hbase : attributeBase a "index" X.env (eval a X.env) = eval a X.env := by rfl) (hline : (apos.endLine == pos.line) = true := by rfl) :
    PE X (.Call (.Attribute a "index" apos) [b] [] pos) (tX X.K W (strM sindexR f g)) := peTo (pe_m1 F.slot_str_index F.type_str_index mt_sindex ha hb hs hbase hline) (strM_of fun h0 h ρ σ s y b Q R0 R g ok q => by
  unfold sindexR at q
  split at q
  · rename_i t et
    have e1 := dp_str (ok.dp R.ch et)
    subst e1
    split at q
    · rename_i i rest ei
      exact ⟨s, t, i, rest, rfl, rfl, ei, q.now R (.int _)⟩
    · exact q.elim
  · exact q.elim)
end
@[simp] theorem lenSetF_e (f : EF) (ρ : Env) : lenSetF f ρ = (f ρ).bind fun a => match a.dat with
  | some (.list ys) => (match dInts ys with
    | some ns => if ns.Nodup ∧ ns.length ≤ 4000 then .ok (.v (.int (ns.length : Nat))) else .bad
    | none => .bad)
  | _ => .bad := (rfl)
end Sq

namespace Sq
open PySem L2
/-- _law_cell_at(_law_script, _law_k); slots: 0:_law_script 1:_law_k -/
def b_law_cell_at : SF :=
  (seqS (ifS (tstF (binF ltR (varF 1) (unF lenR (varF 0)))) (retS (binF ixR (varF 0) (varF 1)))
  skipS)
  (retS (cF (.int 0))))
def f_law_cell_at : List Sl → Fr := fnR b_law_cell_at 2

/-- _law_together(_law_right, _law_up); slots: 0:_law_right 1:_law_up 2:_law_met 3:_law_at 4:_law_kept 5:_law_square 6:_law_k -/
def b_law_together_2 : SF :=
  (seqS (asgS (lstF (aCons (cF (.int 0)) aNil)) (asgn 2))
  (seqS (asgS (cF (.int 0)) (asgn 3))
  (seqS (whileS (tstF (binF ltR (varF 3) (unF lenR (varF 2)))) (seqS (forS (itF itS (tupF (aCons (binF ixR (varF 0) (binF ixR (varF 2) (varF 3))) (aCons (binF ixR (varF 1) (binF ixR (varF 2) (varF 3))) aNil)))) (asgn 5)
  (ifS (tstF (binF (inR true) (varF 5) (varF 2))) (appS 2 (varF 5))
  skipS))
  (asgS (binF addR (varF 3) (cF (.int 1))) (asgn 3))))
  (seqS (asgS (unF sortR (varF 2)) (asgn 4))
  (frzS 4 (retS (tupF (aCons (unF tupleR (lcF (itF itC (varF 4)) (asgn 6) [6] yesT (indexF (varF 4) (binF ixR (varF 0) (varF 6))))) (aCons (unF tupleR (lcF (itF itC (varF 4)) (asgn 6) [6] yesT (indexF (varF 4) (binF ixR (varF 1) (varF 6))))) aNil)))))))))
def f_law_together_2 : List Sl → Fr := fnR b_law_together_2 7

/-- _law_row_by(_law_cell, _law_many); slots: 0:_law_cell 1:_law_many 2:_law_left 3:_law_row_here -/
def b_law_row_by : SF :=
  (seqS (asgS (lrgF (cF (.int 0)) (varF 1)) (asgn 2))
  (seqS (asgS (binF (flat2 (int2 imod)) (varF 0) (binF (flat2 (int2 ipow)) (cF (.int 10)) (cF (.int 60)))) (asgn 0))
  (seqS (asgS (lstF aNil) (asgn 3))
  (seqS (whileS (tstF (binF gtR (unF lenR (varF 2)) (cF (.int 0)))) (seqS (appM 3 (popAtM 2 (binF (flat2 (int2 imod)) (varF 0) (unF lenR (varF 2)))))
  (asgS (binF (flat2 (int2 idiv)) (varF 0) (binF addR (unF lenR (varF 2)) (cF (.int 1)))) (asgn 0))))
  (retVar 3)))))
def f_law_row_by : List Sl → Fr := fnR b_law_row_by 4

/-- _law_sheet_by(_law_script, _law_many); slots: 0:_law_script 1:_law_many -/
def b_law_sheet_by_3 : SF :=
  (retS (callF f_law_together_2 (aCons (callF f_law_row_by (aCons (callF f_law_cell_at (aCons (varF 0) (aCons (cF (.int 1)) aNil))) (aCons (varF 1) aNil))) (aCons (callF f_law_row_by (aCons (callF f_law_cell_at (aCons (varF 0) (aCons (cF (.int 2)) aNil))) (aCons (varF 1) aNil))) aNil))))
def f_law_sheet_by_3 : List Sl → Fr := fnR b_law_sheet_by_3 2

/-- _law_row(_law_cells); slots: 0:_law_cells 1:_law_left 2:_law_row_here 3:_law_cell -/
def b_law_row_2 : SF :=
  (seqS (asgS (lrgF (cF (.int 0)) (unF lenR (varF 0))) (asgn 1))
  (seqS (asgS (lstF aNil) (asgn 2))
  (seqS (forS (itF itS (varF 0)) (asgn 3)
  (appM 2 (popAtM 1 (binF (flat2 (int2 imod)) (varF 3) (unF lenR (varF 1))))))
  (retVar 2))))
def f_law_row_2 : List Sl → Fr := fnR b_law_row_2 4

/-- _law_spread(_law_script, _law_k); slots: 0:_law_script 1:_law_k 2:_law_cell -/
def b_law_spread : SF :=
  (seqS (ifS (tstF (binF ltR (varF 1) (unF lenR (varF 0)))) (retS (binF ixR (varF 0) (varF 1)))
  skipS)
  (seqS (asgS (binF addR (binF (flat2 (int2 imul)) (varF 1) (varF 1)) (cF (.int 7))) (asgn 2))
  (seqS (ifS (tstF (binF gtR (unF lenR (varF 0)) (cF (.int 0)))) (asgS (binF addR (binF addR (binF (flat2 (int2 imul)) (binF ixR (varF 0) (binF (flat2 (int2 imod)) (varF 1) (unF lenR (varF 0)))) (cF (.int 48271))) (binF (flat2 (int2 imul)) (binF (flat2 (int2 imul)) (varF 1) (varF 1)) (cF (.int 40503)))) (cF (.int 11))) (asgn 2))
  skipS)
  (frzS 2 (retS (binF (flat2 (int2 idiv)) (binF (flat2 (int2 imod)) (varF 2) (cF (.int 2147483647))) (cF (.int 7))))))))
def f_law_spread : List Sl → Fr := fnR b_law_spread 3

/-- _law_sheet(_law_script, _law_at, _law_many); slots: 0:_law_script 1:_law_at 2:_law_many 3:_law_right 4:_law_up 5:_law_k -/
def b_law_sheet_2 : SF :=
  (seqS (asgS (callF f_law_row_2 (aCons (lcF (rg1F (varF 2)) (asgn 5) [5] yesT (callF f_law_spread (aCons (varF 0) (aCons (binF addR (varF 1) (varF 5)) aNil)))) aNil)) (asgn 3))
  (seqS (asgS (callF f_law_row_2 (aCons (lcF (rg1F (varF 2)) (asgn 5) [5] yesT (callF f_law_spread (aCons (varF 0) (aCons (binF addR (binF addR (varF 1) (varF 2)) (varF 5)) aNil)))) aNil)) (asgn 4))
  (frzS 4 (frzS 3 (retS (callF f_law_together_2 (aCons (varF 3) (aCons (varF 4) aNil))))))))
def f_law_sheet_2 : List Sl → Fr := fnR b_law_sheet_2 6

/-- _law_rows_alike(_law_script, _law_many, _law_size_told); slots: 0:_law_script 1:_law_many 2:_law_size_told 3:_law_right 4:_law_square 5:_law_k -/
def b_law_rows_alike : SF :=
  (seqS (asgS (lcF (rg1F (varF 1)) (asgn 4) [4] yesT (binF addR (binF (flat2 (int2 isub)) (varF 4) (binF (flat2 (int2 imod)) (varF 4) (varF 2))) (binF (flat2 (int2 imod)) (binF addR (varF 4) (cF (.int 1))) (varF 2)))) (asgn 3))
  (frzS 3 (retS (callF f_law_together_2 (aCons (varF 3) (aCons (callF f_law_row_2 (aCons (lcF (rg1F (varF 1)) (asgn 5) [5] yesT (callF f_law_spread (aCons (varF 0) (aCons (binF addR (cF (.int 2)) (varF 5)) aNil)))) aNil)) aNil))))))
def f_law_rows_alike : List Sl → Fr := fnR b_law_rows_alike 6

/-- back_row(row); slots: 0:row 1:told 2:at 3:square -/
def b_back_row : SF :=
  (seqS (asgS (lcF (itF itC (varF 0)) (asgn 3) [3] yesT (cF (.int 0))) (asgn 1))
  (seqS (forS (enF itS (varF 0)) (unpT [asgn 2, asgn 3])
  (setIt 1 (varF 3) (varF 2)))
  (frzS 1 (retS (unF tupleR (varF 1))))))
def f_back_row : List Sl → Fr := fnR b_back_row 4

/-- size(sheet); slots: 0:sheet -/
def b_size : SF :=
  (retS (unF lenR (binF ixR (varF 0) (cF (.int 0)))))
def f_size : List Sl → Fr := fnR b_size 1

/-- turn_row(sheet); slots: 0:sheet 1:left 2:down 3:right 4:up 5:square -/
def b_turn_row : SF :=
  (seqS (asgS (varF 0) (unpT [asgn 3, asgn 4]))
  (seqS (asgS (callF f_back_row (aCons (varF 3) aNil)) (asgn 1))
  (seqS (asgS (callF f_back_row (aCons (varF 4) aNil)) (asgn 2))
  (frzS 1 (frzS 2 (retS (lcF (rg1F (callF f_size (aCons (varF 0) aNil))) (asgn 5) [5] yesT (binF ixR (varF 4) (binF ixR (varF 3) (binF ixR (varF 2) (binF ixR (varF 1) (varF 5))))))))))))
def f_turn_row : List Sl → Fr := fnR b_turn_row 6

/-- round_by(later, square); slots: 0:later 1:square 2:found 3:now -/
def b_round_by : SF :=
  (seqS (asgS (lstF (aCons (varF 1) aNil)) (asgn 2))
  (seqS (asgS (binF ixR (varF 0) (varF 1)) (asgn 3))
  (seqS (whileS (tstF (binF neR (varF 3) (varF 1))) (frzS 3 (seqS (appS 2 (varF 3))
  (asgS (binF ixR (varF 0) (varF 3)) (asgn 3)))))
  (retVar 2))))
def f_round_by : List Sl → Fr := fnR b_round_by 4

/-- corners(sheet); slots: 0:sheet 1:later 2:have 3:found 4:square 5:met 6:one -/
def b_corners : SF :=
  (seqS (asgS (callF f_turn_row (aCons (varF 0) aNil)) (asgn 1))
  (seqS (asgS (fun _ => .ok (.ok [])) (asgn 2))
  (seqS (asgS (lstF aNil) (asgn 3))
  (seqS (forS (rg1F (callF f_size (aCons (varF 0) aNil))) (asgn 4)
  (ifS (tstF (binF (inR true) (varF 4) (varF 2))) (seqS (asgS (callF f_round_by (aCons (varF 1) (aCons (varF 4) aNil))) (asgn 5))
  (frzS 5 (seqS (forS (itF itS (varF 5)) (asgn 6)
  (setIt 2 (varF 6) (cF (.bool true))))
  (frzS 5 (appS 3 (varF 5))))))
  skipS))
  (retVar 3)))))
def f_corners : List Sl → Fr := fnR b_corners 7

/-- borders(sheet); slots: 0:sheet 1:found 2:met -/
def b_borders : SF :=
  (seqS (asgS (lstF aNil) (asgn 1))
  (seqS (forS (itF itS (callF f_corners (aCons (varF 0) aNil))) (asgn 2)
  (ifS (tstF (binF gtR (unF lenR (varF 2)) (cF (.int 1)))) (extS 1 (varF 2))
  skipS))
  (seqS (ifS (tstF (binF eqR (unF lenR (varF 1)) (cF (.int 0)))) (retS (lstF (aCons (cF (.int 0)) aNil)))
  skipS)
  (frzS 1 (retS (unF sortR (varF 1)))))))
def f_borders : List Sl → Fr := fnR b_borders 3

/-- rows(sheet); slots: 0:sheet 1:right 2:have 3:found 4:first 5:row 6:square -/
def b_rows : SF :=
  (seqS (asgS (binF ixR (varF 0) (cF (.int 0))) (asgn 1))
  (seqS (asgS (fun _ => .ok (.ok [])) (asgn 2))
  (seqS (asgS (lstF aNil) (asgn 3))
  (seqS (forS (rg1F (callF f_size (aCons (varF 0) aNil))) (asgn 4)
  (ifS (tstF (binF (inR true) (varF 4) (varF 2))) (seqS (asgS (lstF (aCons (varF 4) aNil)) (asgn 5))
  (seqS (whileS (tstF (binF neR (binF ixR (varF 1) (binF ixR (varF 5) (unF negR (cF (.int 1))))) (varF 4))) (appS 5 (binF ixR (varF 1) (binF ixR (varF 5) (unF negR (cF (.int 1)))))))
  (frzS 5 (seqS (forS (itF itS (varF 5)) (asgn 6)
  (setIt 2 (varF 6) (cF (.bool true))))
  (frzS 5 (appS 3 (varF 5)))))))
  skipS))
  (retVar 3)))))
def f_rows : List Sl → Fr := fnR b_rows 7

/-- has_one(squares, marks); slots: 0:squares 1:marks 2:square -/
def b_has_one : SF :=
  (retS (unF anyA (lcF (itF itC (varF 0)) (asgn 2) [2] yesT (binF (inR false) (varF 2) (varF 1)))))
def f_has_one : List Sl → Fr := fnR b_has_one 3

/-- band_from(up, row, marks); slots: 0:up 1:row 2:marks 3:length 4:width 5:top 6:above 7:starts 8:shifts 9:t 10:square 11:k -/
def b_band_from_2 : SF :=
  (seqS (asgS (unF lenR (varF 1)) (asgn 3))
  (seqS (asgS (cF (.int 1)) (asgn 4))
  (seqS (asgS (varF 1) (asgn 5))
  (seqS (asgS (lcF (itF itC (varF 5)) (asgn 10) [10] yesT (binF ixR (varF 0) (varF 10))) (asgn 6))
  (seqS (whileS (notT (tstF (callF f_has_one (aCons (varF 6) (aCons (varF 2) aNil))))) (seqS (asgS (binF addR (varF 4) (cF (.int 1))) (asgn 4))
  (frzS 6 (seqS (asgS (varF 6) (asgn 5))
  (asgS (lcF (itF itC (varF 5)) (asgn 10) [10] yesT (binF ixR (varF 0) (varF 10))) (asgn 6))))))
  (seqS (asgS (lcF (rg1F (varF 3)) (asgn 11) [11] (tstF (binF (inR false) (binF ixR (varF 1) (varF 11)) (varF 2))) (varF 11)) (asgn 7))
  (seqS (asgS (lstF aNil) (asgn 8))
  (seqS (forS (rg1F (varF 3)) (asgn 9)
  (ifS (tstF (callF f_has_one (aCons (lcF (itF itC (varF 7)) (asgn 11) [11] yesT (binF ixR (varF 6) (binF (flat2 (int2 imod)) (binF addR (varF 11) (varF 9)) (varF 3)))) (aCons (varF 2) aNil)))) (appS 8 (varF 9))
  skipS))
  (frzS 8 (frzS 4 (frzS 3 (retS (tupF (aCons (varF 3) (aCons (varF 4) (aCons (unF tupleR (varF 8)) aNil))))))))))))))))
def f_band_from_2 : List Sl → Fr := fnR b_band_from_2 12

/-- bands(sheet); slots: 0:sheet 1:marks 2:found 3:row -/
def b_bands_2 : SF :=
  (seqS (asgS (callF f_borders (aCons (varF 0) aNil)) (asgn 1))
  (seqS (asgS (lstF aNil) (asgn 2))
  (seqS (forS (itF itS (callF f_rows (aCons (varF 0) aNil))) (asgn 3)
  (ifS (tstF (callF f_has_one (aCons (varF 3) (aCons (varF 1) aNil)))) (appS 2 (callF f_band_from_2 (aCons (binF ixR (varF 0) (cF (.int 1))) (aCons (varF 3) (aCons (varF 1) aNil)))))
  skipS))
  (frzS 2 (retS (unF sortA (varF 2)))))))
def f_bands_2 : List Sl → Fr := fnR b_bands_2 4

/-- _law_whole(_law_found); slots: 0:_law_found -/
def b_law_whole : SF :=
  (retS (andF (unF (isiR "int") (varF 0)) (notF (unF (isiR "bool") (varF 0)))))
def f_law_whole : List Sl → Fr := fnR b_law_whole 1

/-- _law_gcd(_law_one, _law_other); slots: 0:_law_one 1:_law_other -/
def b_law_gcd : SF :=
  (seqS (parS 0 1 (aCons (unF absR (varF 0)) (aCons (unF absR (varF 1)) aNil)))
  (seqS (whileS (tstF (binF neR (varF 1) (cF (.int 0)))) (parS 0 1 (aCons (varF 1) (aCons (binF (flat2 (int2 imod)) (varF 0) (varF 1)) aNil))))
  (retVar 0)))
def f_law_gcd : List Sl → Fr := fnR b_law_gcd 2

/-- check_word(word); slots: 0:word 1:letter -/
def b_check_word_3 : SF :=
  (seqS (ifS (tstF (binF gtR (unF lenR (varF 0)) (cF (.int 1000)))) badS
  skipS)
  (forS (itF itT (varF 0)) (asgn 1)
  (ifS (tstF (binF (inR true) (varF 1) (cF (.str "st")))) badS
  skipS)))
def f_check_word_3 : List Sl → Fr := fnR b_check_word_3 2

/-- sheared(sheet); slots: 0:sheet 1:left 2:right 3:up 4:square -/
def b_sheared : SF :=
  (seqS (asgS (varF 0) (unpT [asgn 2, asgn 3]))
  (seqS (asgS (callF f_back_row (aCons (varF 2) aNil)) (asgn 1))
  (frzS 1 (retS (tupF (aCons (varF 2) (aCons (unF tupleR (lcF (itF itC (varF 1)) (asgn 4) [4] yesT (binF ixR (varF 3) (varF 4)))) aNil)))))))
def f_sheared : List Sl → Fr := fnR b_sheared 5

/-- turned(sheet); slots: 0:sheet 1:right 2:up -/
def b_turned : SF :=
  (seqS (asgS (varF 0) (unpT [asgn 1, asgn 2]))
  (retS (tupF (aCons (callF f_back_row (aCons (varF 2) aNil)) (aCons (varF 1) aNil)))))
def f_turned : List Sl → Fr := fnR b_turned 3

/-- moved(sheet, word); slots: 0:sheet 1:word 2:letter -/
def b_moved_3 : SF :=
  (seqS (exprS (callF f_check_word_3 (aCons (varF 1) aNil)))
  (seqS (forS (itF itT (varF 1)) (asgn 2)
  (ifS (tstF (binF eqR (varF 2) (cF (.str "s")))) (asgS (callF f_sheared (aCons (varF 0) aNil)) (asgn 0))
  (asgS (callF f_turned (aCons (varF 0) aNil)) (asgn 0))))
  (retVar 0)))
def f_moved_3 : List Sl → Fr := fnR b_moved_3 3

/-- _law_leading(_law_one, _law_other, _law_first); slots: 0:_law_one 1:_law_other 2:_law_first 3:_law_numbers 4:_law_met 5:_law_at 6:_law_here 7:_law_row_here 8:_law_there 9:_law_goal 10:_law_square -/
def b_law_leading : SF :=
  (seqS (asgS (dispF (flatA [((cF (.int 0)), (varF 2))])) (asgn 3))
  (seqS (asgS (lstF (aCons (cF (.int 0)) aNil)) (asgn 4))
  (seqS (asgS (cF (.int 0)) (asgn 5))
  (seqS (whileS (tstF (binF ltR (varF 5) (unF lenR (varF 4)))) (seqS (asgS (binF ixR (varF 4) (varF 5)) (asgn 6))
  (seqS (forS (zipF (aCons (varF 0) (aCons (varF 1) aNil))) (unpT [asgn 7, asgn 8])
  (seqS (asgS (binF ixR (varF 8) (binF ixR (varF 3) (varF 6))) (asgn 9))
  (ifS (tstF (binF (inR true) (binF ixR (varF 7) (varF 6)) (varF 3))) (seqS (setIt 3 (binF ixR (varF 7) (varF 6)) (varF 9))
  (appS 4 (binF ixR (varF 7) (varF 6))))
  (ifS (tstF (binF neR (binF ixR (varF 3) (binF ixR (varF 7) (varF 6))) (varF 9))) (retS (cF .none))
  skipS))))
  (asgS (binF addR (varF 5) (cF (.int 1))) (asgn 5)))))
  (frzS 4 (retS (lcF (rg1F (unF lenR (varF 4))) (asgn 10) [10] yesT (binF ixR (varF 3) (varF 10)))))))))
def f_law_leading : List Sl → Fr := fnR b_law_leading 11

/-- _law_same(_law_one, _law_other); slots: 0:_law_one 1:_law_other 2:_law_first 3:_law_found -/
def b_law_same : SF :=
  (seqS (ifS (tstF (binF neR (unF lenR (binF ixR (varF 0) (cF (.int 0)))) (unF lenR (binF ixR (varF 1) (cF (.int 0)))))) (retS (cF (.bool false)))
  skipS)
  (seqS (forS (rg1F (unF lenR (binF ixR (varF 1) (cF (.int 0))))) (asgn 2)
  (seqS (asgS (callF f_law_leading (aCons (varF 0) (aCons (varF 1) (aCons (varF 2) aNil)))) (asgn 3))
  (ifS (andT (tstF (binF notR (varF 3) (cF .none))) (tstF (binF eqR (lenSetF (varF 3)) (unF lenR (varF 3))))) (retS (cF (.bool true)))
  skipS)))
  (retS (cF (.bool false)))))
def f_law_same : List Sl → Fr := fnR b_law_same 4

/-- law(_law_script); slots: 0:_law_script 1:_law_cell 2:_law_sheet_here 3:_law_often 4:_law_band 5:_law_far 6:_law_size_told 7:_law_turns_told -/
def b_law_k65_whole_twists_come_round : SF :=
  (seqS (asgS (callF f_law_cell_at (aCons (varF 0) (aCons (cF (.int 0)) aNil))) (asgn 1))
  (seqS (asgS (callF f_law_sheet_by_3 (aCons (varF 0) (aCons (binF addR (cF (.int 1)) (binF (flat2 (int2 imod)) (binF (flat2 (int2 idiv)) (varF 1) (cF (.int 2))) (cF (.int 12)))) aNil))) (asgn 2))
  (seqS (ifS (tstF (binF eqR (binF (flat2 (int2 imod)) (varF 1) (cF (.int 4))) (cF (.int 1)))) (asgS (callF f_law_sheet_2 (aCons (varF 0) (aCons (cF (.int 2)) (aCons (binF addR (cF (.int 1)) (binF (flat2 (int2 imod)) (binF (flat2 (int2 idiv)) (varF 1) (cF (.int 4))) (cF (.int 12)))) aNil)))) (asgn 2))
  skipS)
  (seqS (ifS (tstF (binF eqR (binF (flat2 (int2 imod)) (varF 1) (cF (.int 4))) (cF (.int 3)))) (seqS (asgS (binF addR (cF (.int 1)) (binF (flat2 (int2 imod)) (binF (flat2 (int2 idiv)) (varF 1) (cF (.int 4))) (cF (.int 4)))) (asgn 6))
  (asgS (callF f_law_rows_alike (aCons (varF 0) (aCons (binF (flat2 (int2 imul)) (varF 6) (binF addR (cF (.int 1)) (binF (flat2 (int2 imod)) (binF (flat2 (int2 idiv)) (varF 1) (cF (.int 16))) (cF (.int 3))))) (aCons (varF 6) aNil)))) (asgn 2)))
  skipS)
  (seqS (asgS (cF (.int 1)) (asgn 3))
  (seqS (forS (itF itS (callF f_bands_2 (aCons (varF 2) aNil))) (asgn 4)
  (seqS (ifS (orT (notT (tstF (callF f_law_whole (aCons (binF ixR (varF 4) (cF (.int 0))) aNil)))) (orT (notT (tstF (callF f_law_whole (aCons (binF ixR (varF 4) (cF (.int 1))) aNil)))) (orT (tstF (binF ltR (binF ixR (varF 4) (cF (.int 0))) (cF (.int 1)))) (tstF (binF gtR (binF ixR (varF 4) (cF (.int 0))) (cF (.int 12))))))) (retS (cF (.bool false)))
  skipS)
  (seqS (asgS (binF (flat2 (int2 idiv)) (binF ixR (varF 4) (cF (.int 0))) (callF f_law_gcd (aCons (binF ixR (varF 4) (cF (.int 0))) (aCons (binF ixR (varF 4) (cF (.int 1))) aNil)))) (asgn 7))
  (asgS (binF (flat2 (int2 idiv)) (binF (flat2 (int2 imul)) (varF 3) (varF 7)) (callF f_law_gcd (aCons (varF 3) (aCons (varF 7) aNil)))) (asgn 3)))))
  (seqS (asgS (callF f_moved_3 (aCons (varF 2) (aCons (binF (flat2 srep) (cF (.str "s")) (varF 3)) aNil))) (asgn 5))
  (frzS 5 (frzS 2 (retS (andF (callF f_law_same (aCons (varF 2) (aCons (varF 5) aNil))) (callF f_law_same (aCons (callF f_sheared (aCons (varF 5) aNil)) (aCons (callF f_sheared (aCons (varF 2) aNil)) aNil))))))))))))))
def f_law_k65_whole_twists_come_round : List Sl → Fr := fnR b_law_k65_whole_twists_come_round 8

theorem fnR_of {f : SF} {n : Nat} {as : List Sl} {r : Rv} (h : f (as ++ List.replicate (n - as.length) .u) = .ret r) : fnR f n as = .ret r := by
  unfold fnR
  rw [h]
theorem fnR_none {f : SF} {n : Nat} {as : List Sl} {ρ : Env} (h : f (as ++ List.replicate (n - as.length) .u) = .next ρ) : fnR f n as = .ret (.v .none) := by
  unfold fnR
  rw [h]
theorem fnR_exc {f : SF} {n : Nat} {as : List Sl} {ρ : Env} {c : Str} {p} (h : f (as ++ List.replicate (n - as.length) .u) = .exc c p ρ) : fnR f n as = .exc c p := by
  unfold fnR
  rw [h]
theorem zD_get {ns : List Int} {k : Nat} (h : k < ns.length) : (zD ns)[k]? = some (.int (ns.getD k 0)) := by
  simp [zD, List.getElem?_eq_getElem h, List.getD_eq_getElem?_getD]
theorem nD_one (x : Nat) : nD [x] = [.int (x : Int)] := rfl
theorem erase_map {α β : Type} (f : α → β) : ∀ (l : List α) (i : Nat), (l.map f).eraseIdx i = (l.eraseIdx i).map f
  | [], _ => rfl
  | _ :: _, 0 => rfl
  | a :: l, i + 1 => congrArg (f a :: ·) (erase_map f l i)
theorem nD_set (w : List Nat) (i y : Nat) : (nD w).set i (.int (y : Int)) = nD (w.set i y) := by simp [nD]
theorem ixN_nat {n i : Nat} (h : i < n) : ixN n (i : Int) = some i := by
  unfold ixN
  rw [if_pos (Int.natCast_nonneg i), if_pos (by omega)]
  rfl

def put (hv : List Nat) (y : Nat) : List Nat := if y ∈ hv then hv else hv ++ [y]
theorem put_sub {hv : List Nat} {y x : Nat} (h : x ∈ hv) : x ∈ put hv y := by
  unfold put
  split
  · exact h
  · exact List.mem_append_left _ h
theorem put_self {hv : List Nat} {y : Nat} : y ∈ put hv y := by
  unfold put
  split
  · assumption
  · simp
theorem put_mem {hv : List Nat} {y x : Nat} (h : x ∈ put hv y) : x ∈ hv ∨ x = y := by
  unfold put at h
  split at h
  · exact .inl h
  · simpa using h
theorem put_nd {hv : List Nat} {y : Nat} (h : hv.Nodup) : (put hv y).Nodup := by
  unfold put
  split
  · exact h
  · rename_i hn
    exact (List.perm_append_comm.nodup_iff).mpr (List.nodup_cons.mpr ⟨hn, h⟩)
theorem put_ap {hv : List Nat} {y i : Nat} (h : i < hv.length) : ap (put hv y) i = ap hv i := by
  unfold put
  split
  · rfl
  · refine ap_of ?_
    rw [List.getElem?_append_left h]
    exact ap_get h
theorem put_len {hv : List Nat} {y : Nat} : hv.length ≤ (put hv y).length := by
  unfold put
  split
  · exact Nat.le_refl _
  · simp
structure TogInv (a b : List Nat) (m : Nat) (hv : List Nat) (j : Nat) : Prop where
  nd : hv.Nodup
  lt : ∀ x ∈ hv, x < m
  z : 0 ∈ hv
  le : j ≤ hv.length
  done : ∀ i, i < j → ap a (ap hv i) ∈ hv ∧ ap b (ap hv i) ∈ hv
  re : ∀ x ∈ hv, Re a b x
theorem TogInv.len {a b hv : List Nat} {m j : Nat} (h : TogInv a b m hv j) : hv.length ≤ m := by
  have := List.Nodup.length_le_of_subset h.nd (l₂ := List.range m) fun x hx => List.mem_range.mpr (h.lt x hx)
  simpa using this
theorem TogInv.step {a b hv : List Nat} {m j : Nat} (ha : Pm a m) (hb : Pm b m) (h : TogInv a b m hv j) (hj : j < hv.length) : TogInv a b m (put (put hv (ap a (ap hv j))) (ap b (ap hv j))) (j + 1) := by
  have hm : ap hv j ∈ hv := ap_mem hj
  have hlt := h.lt _ hm
  refine ⟨put_nd (put_nd h.nd), fun x hx => ?_, put_sub (put_sub h.z), ?_, fun i hi => ?_, fun x hx => ?_⟩
  · rcases put_mem hx with e | e
    · rcases put_mem e with e | e
      · exact h.lt x e
      · rw [e]; exact ha.ap_lt hlt
    · rw [e]; exact hb.ap_lt hlt
  · have h1 := put_len (hv := hv) (y := ap a (ap hv j))
    have h2 := put_len (hv := put hv (ap a (ap hv j))) (y := ap b (ap hv j))
    omega
  · have hil : i < hv.length := by omega
    rw [put_ap (Nat.lt_of_lt_of_le hil put_len), put_ap hil]
    by_cases e : i = j
    · subst e
      exact ⟨put_sub put_self, put_self⟩
    · have := h.done i (by omega)
      exact ⟨put_sub (put_sub this.1), put_sub (put_sub this.2)⟩
  · rcases put_mem hx with e | e
    · rcases put_mem e with e | e
      · exact h.re x e
      · rw [e]; exact .fa (h.re _ hm)
    · rw [e]; exact .fb (h.re _ hm)
theorem pop_perm {left row : List Nat} {j : Nat} (hj : j < left.length) {m : Nat} (hp : (left ++ row).Perm (List.range m)) : (left.eraseIdx j ++ (row ++ [left[j]])).Perm (List.range m) := by
  refine List.Perm.trans ?_ hp
  have : (left[j] :: left.eraseIdx j).Perm left := by
    rw [List.eraseIdx_eq_take_drop_succ]
    have := (List.perm_middle (a := left[j]) (l₁ := left.take j) (l₂ := left.drop (j + 1))).symm
    refine this.trans ?_
    rw [List.getElem_cons_drop hj, List.take_append_drop]
  have h2 : (left.eraseIdx j ++ (row ++ [left[j]])).Perm ((left[j] :: left.eraseIdx j) ++ row) := by
    rw [← List.append_assoc]
    refine List.perm_append_comm.trans ?_
    simp
  exact h2.trans (this.append_right row)

theorem cell_at_ok (ns : List Int) (k : Nat) : ∃ c : Int, f_law_cell_at [.v (.list (zD ns)), .v (.int k)] = .ret (.v (.int c)) := by
  by_cases h : k < ns.length
  · refine ⟨ns.getD k 0, fnR_of ?_⟩
    show b_law_cell_at [.v (.list (zD ns)), .v (.int k)] = _
    have hx : ixR (.v (.list (zD ns))) (.v (.int k)) = .ok (.v (.int (ns.getD k 0))) := ixR_vl (at_nat.trans (zD_get h))
    unfold b_law_cell_at
    simp [hx, h]
  · refine ⟨0, fnR_of ?_⟩
    show b_law_cell_at [.v (.list (zD ns)), .v (.int k)] = _
    unfold b_law_cell_at
    simp [h]

theorem spread_ok (ns : List Int) (k : Nat) (hk : k < 2 ^ 32) : ∃ c : Int, f_law_spread [.v (.list (zD ns)), .v (.int k)] = .ret (.v (.int c)) := by
  by_cases h : k < ns.length
  · refine ⟨ns.getD k 0, fnR_of ?_⟩
    show b_law_spread [.v (.list (zD ns)), .v (.int k), .u] = _
    have hx : ixR (.v (.list (zD ns))) (.v (.int k)) = .ok (.v (.int (ns.getD k 0))) := ixR_vl (at_nat.trans (zD_get h))
    unfold b_law_spread
    simp [hx, h]
  · obtain ⟨y, h3⟩ : ∃ y : Int, imul (k : Int) (k : Int) = .ok (.int y) := ⟨_, imul_r (by omega)⟩
    by_cases h0 : ns.length = 0
    · obtain ⟨c1, h5⟩ : ∃ c : Int, imod (y + 7) 2147483647 = .ok (.int c) := ⟨_, imod_s (by decide)⟩
      obtain ⟨c, h6⟩ : ∃ c : Int, idiv c1 7 = .ok (.int c) := ⟨_, idiv_s (by decide)⟩
      refine ⟨c, fnR_of ?_⟩
      show b_law_spread [.v (.list (zD ns)), .v (.int k), .u] = _
      have hk : ¬ (k : Int) < 0 := by omega
      unfold b_law_spread
      simp [h0, hk, h3, h5, h6]
    · obtain ⟨q, hm, hq⟩ : ∃ q : Nat, imod (k : Int) (ns.length : Int) = .ok (.int (q : Int)) ∧ q < ns.length := ⟨k % ns.length, imod_s (by omega), Nat.mod_lt _ (by omega)⟩
      obtain ⟨v, hx⟩ : ∃ v : Int, ixR (.v (.list (zD ns))) (.v (.int q)) = .ok (.v (.int v)) := ⟨_, ixR_vl (at_nat.trans (zD_get hq))⟩
      obtain ⟨x, h2⟩ : ∃ x : Int, imul v 48271 = .ok (.int x) := ⟨_, imul_r (by decide)⟩
      obtain ⟨z, h4⟩ : ∃ z : Int, imul y 40503 = .ok (.int z) := ⟨_, imul_r (by decide)⟩
      obtain ⟨c1, h5⟩ : ∃ c : Int, imod (x + z + 11) 2147483647 = .ok (.int c) := ⟨_, imod_s (by decide)⟩
      obtain ⟨c, h6⟩ : ∃ c : Int, idiv c1 7 = .ok (.int c) := ⟨_, idiv_s (by decide)⟩
      refine ⟨c, fnR_of ?_⟩
      show b_law_spread [.v (.list (zD ns)), .v (.int k), .u] = _
      have hpos : 0 < ns.length := by omega
      unfold b_law_spread
      simp [h, hpos, hm, hx, h2, h3, h4, h5, h6]

def rcEnv (cs : List Int) (left row : List Nat) (x : Sl) : Env := [.v (.list (zD cs)), .o (nD left), .o (nD row), x]
theorem rc_step (cs : List Int) (c : Int) (left row : List Nat) (hl : left.length < 1000000) (hp : 0 < left.length) (hr : row.length < 100000) : ∃ j : Nat, ∃ h : j < left.length,
    appM 2 (popAtM 1 (binF (flat2 (int2 imod)) (varF 3) (unF lenR (varF 1)))) (rcEnv cs left row (.v (.int c))) = .next (rcEnv cs (left.eraseIdx j) (row ++ [left[j]]) (.v (.int c))) := by
  have hmod : imod c (left.length : Int) = .ok (.int (c % left.length)) := imod_s (by omega)
  have h0 : 0 ≤ c % (left.length : Int) := Int.emod_nonneg _ (by omega)
  have h1 : c % (left.length : Int) < left.length := Int.emod_lt_of_pos _ (by omega)
  generalize hz : c % (left.length : Int) = z at *
  obtain ⟨j, rfl⟩ := Int.eq_ofNat_of_zero_le h0
  have hj : j < left.length := by omega
  have hg : (nD left)[j]? = some (.int (left[j] : Nat)) := by simp [nD, hj]
  refine ⟨j, hj, ?_⟩
  have hin : (j : Int) < 1000000 := by omega
  have hd : (nD left).eraseIdx j = nD (left.eraseIdx j) := erase_map _ _ _
  unfold rcEnv appM popAtM
  simp [hmod, hg, hin, hj, hr, hd, nD_app, nD_one]
theorem rowc_ok (cs : List Int) (hm : cs.length ≤ 100000) : ∃ r, Pm r cs.length ∧ f_law_row_2 [.v (.list (zD cs))] = .ret (.o (nD r)) := by
  have hl := forL_go (τ := asgn 3) (s := appM 2 (popAtM 1 (binF (flat2 (int2 imod)) (varF 3) (unF lenR (varF 1))))) (rs := cs.map fun c : Int => Rv.v (.int c))
    (ρ := rcEnv cs (List.range cs.length) [] .u)
    (fun i ρ => ∃ left row : List Nat, ∃ x, ρ = rcEnv cs left row x ∧ (left ++ row).Perm (List.range cs.length) ∧ row.length = i)
    ⟨List.range cs.length, [], .u, rfl, by simp, rfl⟩ ?_
  · obtain ⟨ρ', e, left, row, x, eρ, hp, hr⟩ := hl
    subst eρ
    have hlen := hp.length_eq
    simp at hlen hr
    have : left = [] := List.length_eq_zero_iff.mp (by omega)
    subst this
    refine ⟨row, Pm.of_perm (by simpa using hp), fnR_of ?_⟩
    show b_law_row_2 [.v (.list (zD cs)), .u, .u, .u] = _
    have e1 : lrgF (cF (.int 0)) (unF lenR (varF 0)) [.v (.list (zD cs)), .u, .u, .u] = .ok (.o (nD (List.range cs.length))) := lrg_e (a := .v (.int cs.length)) (by simp) rfl (by omega)
    have e2 : itS (.v (.list (zD cs))) = .ok (cs.map fun c : Int => Rv.v (.int c)) := by simp [zD]
    unfold b_law_row_2
    unfold rcEnv at e
    have e' : forL (asgn 3) (appM 2 (popAtM 1 (binF (flat2 (int2 imod)) (varF 3) (unF lenR (varF 1))))) (cs.map fun c : Int => Rv.v (.int c)) [.v (.list (zD cs)), .o (nD (List.range cs.length)), .o [], .u] = _ := e
    rw [seq_go (ρ' := [.v (.list (zD cs)), .o (nD (List.range cs.length)), .u, .u]) (by rw [asgS_e, e1]; rfl)]
    rw [seq_go (ρ' := [.v (.list (zD cs)), .o (nD (List.range cs.length)), .o [], .u]) (by simp)]
    rw [seq_go (ρ' := [.v (.list (zD cs)), .o (nD []), .o (nD row), x]) (by
      rw [forS_e]
      show thenI _ (itS (.v (.list (zD cs)))) _ = _
      rw [e2]
      exact e')]
    simp
  · intro i r ρ hr ⟨left, row, x, eρ, hp, hi⟩
    subst eρ
    obtain ⟨hi2, er⟩ := List.getElem?_eq_some_iff.mp hr
    simp at er hi2
    subst er
    have hlen := hp.length_eq
    simp at hlen
    obtain ⟨j, hj, e⟩ := rc_step cs cs[i] left row (by omega) (by omega) (by omega)
    exact ⟨_, _, rfl, e, left.eraseIdx j, row ++ [left[j]], _, rfl, pop_perm hj hp, by simp [hi]⟩

def tg2Env (a b hv : List Nat) (j : Nat) (x : Sl) : Env := [.v (.list (nD a)), .v (.list (nD b)), .o (nD hv), .v (.int j), .u, x, .u]
def tg2In : SF := ifS (tstF (binF (inR true) (varF 5) (varF 2))) (appS 2 (varF 5)) skipS
theorem tg2_in (a b hv : List Nat) (j y : Nat) (hl : hv.length < 100000) : tg2In (tg2Env a b hv j (.v (.int y))) = .next (tg2Env a b (put hv y) j (.v (.int y))) := by
  unfold tg2In tg2Env put
  by_cases h : y ∈ hv
  · simp [h]
  · simp [h, appS, hl, nD_app, nD_one]
def tg2Body : SF := seqS (forS (itF itS (tupF (aCons (binF ixR (varF 0) (binF ixR (varF 2) (varF 3))) (aCons (binF ixR (varF 1) (binF ixR (varF 2) (varF 3))) aNil)))) (asgn 5) tg2In) (asgS (binF addR (varF 3) (cF (.int 1))) (asgn 3))
theorem tg2_body {a b hv : List Nat} {m j : Nat} {x : Sl} (ha : Pm a m) (hb : Pm b m) (h : TogInv a b m hv j) (hj : j < hv.length) (hm : m < 10000) : ∃ hv' x', tg2Body (tg2Env a b hv j x) = .next (tg2Env a b hv' (j + 1) x') ∧ TogInv a b m hv' (j + 1) := by
  have hl := h.len
  have hs := h.step ha hb hj
  have hlt := h.lt _ (ap_mem hj)
  have e1 := ix_rowW hj
  have e2 := ix_row (a := a) (x := ap hv j) (by rw [ha.len]; exact hlt)
  have e3 := ix_row (a := b) (x := ap hv j) (by rw [hb.len]; exact hlt)
  have hl2 : (put hv (ap a (ap hv j))).length < 100000 := by
    unfold put
    split
    · omega
    · simp; omega
  refine ⟨_, .v (.int (ap b (ap hv j) : Nat)), ?_, hs⟩
  have e4 : forL (asgn 5) tg2In [.v (.int (ap a (ap hv j) : Nat)), .v (.int (ap b (ap hv j) : Nat))] (tg2Env a b hv j x) = .next (tg2Env a b (put (put hv (ap a (ap hv j))) (ap b (ap hv j))) j (.v (.int (ap b (ap hv j) : Nat)))) := by
    rw [forL_next (ρ1 := tg2Env a b hv j (.v (.int (ap a (ap hv j) : Nat)))) rfl (tg2_in a b hv j _ (by omega)), forL_next (ρ1 := tg2Env a b (put hv (ap a (ap hv j))) j (.v (.int (ap b (ap hv j) : Nat)))) rfl (tg2_in a b _ j _ hl2)]
    rfl
  unfold tg2Body
  unfold tg2Env at e4 ⊢
  simp [e1, e2, e3, e4]
theorem together2_ok {a b : List Nat} {m : Nat} (ha : Pm a m) (hb : Pm b m) (h0 : 0 < m) (hm : m ≤ 1000) : ∃ p q n, n ≤ m ∧ Sh p q n ∧ f_law_together_2 [.v (.list (nD a)), .v (.list (nD b))] = .ret (.v (sheet p q)) := by
  have hw := whileS_go (t := tstF (binF ltR (varF 3) (unF lenR (varF 2)))) (s := tg2Body) (ρ := tg2Env a b [0] 0 .u) (fun ρ => ∃ hv j x, ρ = tg2Env a b hv j x ∧ TogInv a b m hv j) (fun ρ => m - (match slot ρ 3 with | .v (.int j) => j.toNat | _ => 0))
    ⟨[0], 0, .u, rfl, by simp, by simpa using h0, by simp, by omega, by simp, by simpa using Re.z⟩ (by show m - 0 < 1000000; omega) ?_
  · obtain ⟨ρ', e, ⟨hv, j, x, eρ, inv⟩, ht⟩ := hw
    subst eρ
    have hj : j = hv.length := by
      have hle := inv.le
      unfold tg2Env at ht
      simp at ht
      omega
    subst hj
    have hp := nsrt_perm hv
    have hcl : ∀ x ∈ hv, ap a x ∈ hv ∧ ap b x ∈ hv := fun x hx => by
      obtain ⟨i, hi, e⟩ := List.getElem_of_mem hx
      have := inv.done i hi
      rw [show ap hv i = x from ap_of (by rw [List.getElem?_eq_getElem hi, e])] at this
      exact this
    have hlen := inv.len
    have hk : ∀ x ∈ nsrt hv, x ∈ hv := fun x hx => hp.mem_iff.mp hx
    refine ⟨_, _, _, ?_, orbit_sh (kept := nsrt hv) ha hb (hp.nodup_iff.mpr inv.nd) (fun x hx => inv.lt x (hk x hx)) (hp.mem_iff.mpr inv.z) (nsrt_le hv) (fun x hx => ⟨hp.mem_iff.mpr (hcl x (hk x hx)).1, hp.mem_iff.mpr (hcl x (hk x hx)).2⟩) (fun x hx => inv.re x (hk x hx)), fnR_of ?_⟩
    · rw [hp.length_eq]; exact hlen
    show b_law_together_2 [.v (.list (nD a)), .v (.list (nD b)), .u, .u, .u, .u, .u] = _
    have hkl : (nsrt hv).length ≤ 100000 := by rw [hp.length_eq]; omega
    have comp : ∀ c : List Nat, ∀ i : Nat, c.length = m → (∀ x ∈ hv, ap c x ∈ hv) → ∀ ρ : Env, ρ = [.v (.list (nD a)), .v (.list (nD b)), .o (nD hv), .v (.int hv.length), .v (.list (nD (nsrt hv))), x, .u] → (slot ρ i).rd = .ok (.v (.list (nD c))) → i < 6 →
        lcF (itF itC (varF 4)) (asgn 6) [6] yesT (indexF (varF 4) (binF ixR (varF i) (varF 6))) ρ = .ok (.o (nD ((nsrt hv).map fun x => Sq.inv (nsrt hv) (ap c x)))) := by
      intro c i hc hcc ρ eρ hs hi
      subst eρ
      have := lcF_map (it := itF itC (varF 4)) (τ := asgn 6) (vs := [6]) (e := indexF (varF 4) (binF ixR (varF i) (varF 6))) (ρ := [.v (.list (nD a)), .v (.list (nD b)), .o (nD hv), .v (.int hv.length), .v (.list (nD (nsrt hv))), x, .u]) (nsrt hv) (fun n : Nat => Rv.v (.int (n : Int))) (fun n : Nat => .int (Sq.inv (nsrt hv) (ap c n) : Nat)) (by simp [nD]) hkl ?_
      · rw [this]
        simp [nD]
      · intro y hy
        have hym := inv.lt y (hk y hy)
        refine ⟨[.v (.list (nD a)), .v (.list (nD b)), .o (nD hv), .v (.int hv.length), .v (.list (nD (nsrt hv))), x, .v (.int y)], .v (.int (Sq.inv (nsrt hv) (ap c y) : Nat)), by simp, ?_, rfl⟩
        rw [indexF_e (a := .v (.list (nD (nsrt hv)))) (ys := nD (nsrt hv)) (by simp) rfl]
        have hs' : (slot [.v (.list (nD a)), .v (.list (nD b)), .o (nD hv), .v (.int hv.length), .v (.list (nD (nsrt hv))), x, .v (.int y)] i).rd = .ok (.v (.list (nD c))) := by
          rw [← hs]
          congr 1
          match i, hi with
          | 0, _ => rfl
          | 1, _ => rfl
          | 2, _ => rfl
          | 3, _ => rfl
          | 4, _ => rfl
          | 5, _ => rfl
        have e1 := ix_row (a := c) (x := y) (by omega)
        have e2 := indexR_nD (hp.mem_iff.mpr (hcc y (hk y hy)))
        simp [hs', e1, e2]
    have c1 := comp a 0 ha.len (fun x hx => (hcl x hx).1) _ rfl rfl (by decide)
    have c2 := comp b 1 hb.len (fun x hx => (hcl x hx).2) _ rfl rfl (by decide)
    unfold tg2Env at e
    show (seqS (asgS (lstF (aCons (cF (.int 0)) aNil)) (asgn 2)) (seqS (asgS (cF (.int 0)) (asgn 3)) (seqS (whileS (tstF (binF ltR (varF 3) (unF lenR (varF 2)))) tg2Body) _))) _ = _
    have e' : whileS (tstF (binF ltR (varF 3) (unF lenR (varF 2)))) tg2Body [.v (.list (nD a)), .v (.list (nD b)), .o [.int 0], .v (.int 0), .u, .u, .u] = _ := e
    simp [e', c1, c2, sheet]
  · intro ρ ⟨hv, j, x, eρ, inv⟩
    subst eρ
    refine ⟨decide (j < hv.length), by unfold tg2Env; simp, fun hb' => ?_⟩
    have hj : j < hv.length := by simpa using hb'
    have hlen := inv.len
    obtain ⟨hv', x', e, inv'⟩ := tg2_body (x := x) ha hb inv hj (by omega)
    refine ⟨_, e, ⟨hv', j + 1, x', rfl, inv'⟩, ?_⟩
    show m - ((j + 1 : Nat) : Int).toNat < m - ((j : Nat) : Int).toNat
    omega

theorem sheet2_ok (ns : List Int) (t m : Nat) (ht : t + 2 * m < 2 ^ 31) (h0 : 0 < m) (hm : m ≤ 1000) : ∃ p q n, n ≤ m ∧ Sh p q n ∧ f_law_sheet_2 [.v (.list (zD ns)), .v (.int t), .v (.int m)] = .ret (.v (sheet p q)) := by
  have cells : ∀ (u : Nat) (e : EF) (ρ : Env), u + m < 2 ^ 32 → ρ.length = 6 → slot ρ 2 = .v (.int m) → slot ρ 0 = .v (.list (zD ns)) → (∀ x : Nat, e ((ρ.set 5 .u).set 5 (.v (.int x))) = .ok (.v (.int ((u : Int) + x)))) →
      ∃ cs : List Int, cs.length = m ∧ lcF (rg1F (varF 2)) (asgn 5) [5] yesT (callF f_law_spread (aCons (varF 0) (aCons e aNil))) ρ = .ok (.o (zD cs)) := by
    intro u e ρ hu hl h2 h0 he
    refine ⟨(List.range m).map fun x => (spread_ok ns (if x < m then u + x else 0) (by split <;> omega)).choose, by simp, ?_⟩
    rw [lcF_map (List.range m) (fun (i : Nat) => Rv.v (.int (i : Int))) (fun x : Nat => .int (spread_ok ns (if x < m then u + x else 0) (by split <;> omega)).choose) (by rw [rg1_nat (n := m) (by simp [h2]) (by omega)]; rfl) (by simp; omega) fun x hx => ?_]
    · simp [zD]
    · have hx := List.mem_range.mp hx
      refine ⟨(ρ.set 5 .u).set 5 (.v (.int x)), .v (.int (spread_ok ns (if x < m then u + x else 0) (by split <;> omega)).choose), rfl, ?_, rfl⟩
      have hc := (spread_ok ns (if x < m then u + x else 0) (by split <;> omega)).choose_spec
      generalize (spread_ok ns (if x < m then u + x else 0) (by split <;> omega)).choose = c at *
      rw [if_pos hx, Int.natCast_add] at hc
      have hs0 : slot ((ρ.set 5 .u).set 5 (.v (.int x))) 0 = .v (.list (zD ns)) := by
        rw [← h0]
        match ρ, hl with
        | [_, _, _, _, _, _], _ => rfl
      simp only [callF_e, aCons_e, varF_e, hs0, rd_v, bind_ok, frz_v, he, aNil_e, List.map_cons, List.map_nil, sl_v, hc, rv_v]
  obtain ⟨cs1, hl1, e1⟩ := cells t (binF addR (varF 1) (varF 5)) [.v (.list (zD ns)), .v (.int t), .v (.int m), .u, .u, .u] (by omega) rfl rfl rfl (fun x => by simp)
  obtain ⟨a, ha, e2⟩ := rowc_ok cs1 (by omega)
  obtain ⟨cs2, hl2, e3⟩ := cells (t + m) (binF addR (binF addR (varF 1) (varF 2)) (varF 5)) [.v (.list (zD ns)), .v (.int t), .v (.int m), .o (nD a), .u, .u] (by omega) rfl rfl rfl (fun x => by simp)
  obtain ⟨b, hb, e4⟩ := rowc_ok cs2 (by omega)
  rw [hl1] at ha
  rw [hl2] at hb
  obtain ⟨p, q, n, hn, hs, e5⟩ := together2_ok ha hb h0 hm
  refine ⟨p, q, n, hn, hs, fnR_of ?_⟩
  show b_law_sheet_2 [.v (.list (zD ns)), .v (.int t), .v (.int m), .u, .u, .u] = _
  unfold b_law_sheet_2
  simp [e1, e2, e3, e4, e5]

/-- a row turned round, told turn by turn -/
def BackInv (p : List Nat) (n i : Nat) (w : List Nat) : Prop := w.length = n ∧ ∀ s, s < i → ap w (ap p s) = s
theorem back_step {p w : List Nat} {n i : Nat} (hp : Pm p n) (h : BackInv p n i w) (hi : i < n) : BackInv p n (i + 1) (w.set (ap p i) i) := by
  refine ⟨by simpa using h.1, fun s hs => ?_⟩
  by_cases e : s = i
  · subst e
    exact ap_set_self (by rw [h.1]; exact hp.ap_lt hi)
  · rw [ap_set_ne (fun z => e (hp.ap_inj hi (by omega) z).symm)]
    exact h.2 s (by omega)
def bk (n : Nat) (p : List Nat) : List Nat := rowOf n (Sq.inv p)
theorem back_end {p w : List Nat} {n : Nat} (hp : Pm p n) (h : BackInv p n n w) : w = bk n p := by
  refine row_ext h.1 (by simp [bk]) fun y hy => ?_
  obtain ⟨s, hs, e⟩ := hp.ap_surj hy
  unfold bk
  rw [ap_rowOf hy, ← e, h.2 s hs, hp.inv_ap hs]
theorem bk_pm {n : Nat} {p : List Nat} (hp : Pm p n) : Pm (bk n p) n :=
  pm_rowOf (fun x hx => hp.inv_lt hx) fun x y hx hy e => by rw [← hp.ap_inv hx, ← hp.ap_inv hy, e]
theorem bk_ap {n s : Nat} {p : List Nat} (hp : Pm p n) (hs : s < n) : ap (bk n p) (ap p s) = s := by
  unfold bk
  rw [ap_rowOf (hp.ap_lt hs), hp.inv_ap hs]
theorem ap_bk {n s : Nat} {p : List Nat} (hp : Pm p n) (hs : s < n) : ap p (ap (bk n p) s) = s := by
  unfold bk
  rw [ap_rowOf hs, hp.ap_inv hs]
theorem bk_bk {n : Nat} {p : List Nat} (hp : Pm p n) : bk n (bk n p) = p :=
  row_ext (by simp [bk]) hp.len fun x hx => by
    have h := bk_ap (bk_pm hp) (hp.ap_lt hx)
    rw [bk_ap hp hx] at h
    exact h
theorem bset (w : List Nat) (i y : Nat) : (nD w).set i (.int (y : Int)) = nD (w.set i y) := by simp [nD]
theorem bixN {n i : Nat} (h : i < n) : ixN n (i : Int) = some i := by
  unfold ixN
  rw [if_pos (Int.natCast_nonneg i), if_pos (by omega)]
  rfl
theorem enR_nD {p : List Nat} {i : Nat} {r : Rv} (h : (enR 0 ((nD p).map Rv.v))[i]? = some r) : i < p.length ∧ r = .v (.tuple [.int (i : Nat), .int (ap p i : Nat)]) := by
  have hi : i < p.length := by
    have := (List.getElem?_eq_some_iff.mp h).1
    simpa [enR_len] using this
  refine ⟨hi, ?_⟩
  obtain ⟨q, e, h1, _⟩ := enR_get (rs := (nD p).map Rv.v) (n := 0) (i := i) (r := .v (.int (ap p i : Nat))) (by simp [ap_get hi])
  rw [e] at h
  cases h
  have := h1 _ rfl
  rw [Nat.zero_add] at this
  exact this
theorem enR_nD_len (p : List Nat) : (enR 0 ((nD p).map Rv.v)).length = p.length := by simp [enR_len]

theorem back_row_ok {p : List Nat} {n : Nat} (hp : Pm p n) (hn : n ≤ 1000) : f_back_row [.v (.tuple (nD p))] = .ret (.v (.tuple (nD (bk n p)))) := by
  refine fnR_of ?_
  show b_back_row [.v (.tuple (nD p)), .u, .u, .u] = _
  have hpl := hp.len
  have h1 : lcF (itF itC (varF 0)) (asgn 3) [3] yesT (cF (.int 0)) [.v (.tuple (nD p)), .u, .u, .u] = .ok (.o (nD (rowOf n fun _ => 0))) := by
    rw [lcF_map p (fun n : Nat => Rv.v (.int (n : Int))) (fun _ => .int 0) (by simp [nD]) (by omega) fun x _ => ⟨_, _, rfl, rfl, rfl⟩]
    simp [nD, rowOf, List.map_const', hpl]
  have hl := forL_go (τ := unpT [asgn 2, asgn 3]) (s := setIt 1 (varF 3) (varF 2)) (rs := enR 0 ((nD p).map Rv.v)) (ρ := [.v (.tuple (nD p)), .o (nD (rowOf n fun _ => 0)), .u, .u])
    (fun i ρ => ∃ w x y, ρ = [.v (.tuple (nD p)), .o (nD w), x, y] ∧ BackInv p n i w) ⟨_, _, _, rfl, by simp, by simp⟩ ?_
  · obtain ⟨ρ', e, w, x, y, eρ, hw⟩ := hl
    subst eρ
    rw [enR_nD_len, hpl] at hw
    have hb := back_end hp hw
    subst hb
    unfold b_back_row
    simp [h1, e]
  · intro i r ρ hr ⟨w, x, y, eρ, hw⟩
    subst eρ
    obtain ⟨hi, er⟩ := enR_nD hr
    subst er
    rw [hpl] at hi
    refine ⟨[.v (.tuple (nD p)), .o (nD w), .v (.int i), .v (.int (ap p i : Nat))], [.v (.tuple (nD p)), .o (nD (w.set (ap p i) i)), .v (.int i), .v (.int (ap p i : Nat))], by simp, ?_, w.set (ap p i) i, _, _, rfl, back_step hp hw hi⟩
    have e3 := bixN (n := w.length) (i := ap p i) (by rw [hw.1]; exact hp.ap_lt hi)
    simp [setIt, e3, bset]

theorem size_ok {p q : List Nat} {n : Nat} (hp : p.length = n) : f_size [.v (sheet p q)] = .ret (.v (.int n)) := by
  refine fnR_of ?_
  show b_size [.v (sheet p q)] = _
  unfold b_size
  simp [ix_sh0, hp]
theorem unp_sheet {τ1 τ2 : TF} {p q : List Nat} {ρ : Env} : unpT [τ1, τ2] (.v (sheet p q)) ρ = (τ1 (.v (.tuple (nD p))) ρ).bind fun ρ' => (τ2 (.v (.tuple (nD q))) ρ').bind fun ρ'' => .ok ρ'' := (rfl)
/-- round a corner -/
def trn (n : Nat) (p q : List Nat) (x : Nat) : Nat := ap q (ap p (ap (bk n q) (ap (bk n p) x)))
theorem turn_row_ok {p q : List Nat} {n : Nat} (hp : Pm p n) (hq : Pm q n) (hn : n ≤ 1000) : f_turn_row [.v (sheet p q)] = .ret (.o (nD (rowOf n (trn n p q)))) := by
  refine fnR_of ?_
  show b_turn_row [.v (sheet p q), .u, .u, .u, .u, .u] = _
  have e1 := back_row_ok hp hn
  have e2 := back_row_ok hq hn
  have hsz := size_ok (p := p) (q := q) hp.len
  have h3 : lcF (rg1F (callF f_size (aCons (varF 0) aNil))) (asgn 5) [5] yesT (binF ixR (varF 4) (binF ixR (varF 3) (binF ixR (varF 2) (binF ixR (varF 1) (varF 5))))) [.v (sheet p q), .v (.tuple (nD (bk n p))), .v (.tuple (nD (bk n q))), .v (.tuple (nD p)), .v (.tuple (nD q)), .u] = .ok (.o (nD (rowOf n (trn n p q)))) := by
    rw [lcF_map (List.range n) (fun (i : Nat) => Rv.v (.int (i : Int))) (fun i : Nat => .int (trn n p q i : Nat)) (by rw [rg1_e (n := (n : Int)) (a := .v (.int n)) (by simp [hsz]) rfl (by omega), rgR_nat]) (by simp; omega) fun x hx => ?_]
    · simp [nD, rowOf]
    · have hx := List.mem_range.mp hx
      have hbp := bk_pm hp
      have hbq := bk_pm hq
      have i1 := ix_rowT (a := bk n p) (x := x) (by rw [hbp.len]; exact hx)
      have i2 := ix_rowT (a := bk n q) (x := ap (bk n p) x) (by rw [hbq.len]; exact hbp.ap_lt hx)
      have i3 := ix_rowT (a := p) (x := ap (bk n q) (ap (bk n p) x)) (by rw [hp.len]; exact hbq.ap_lt (hbp.ap_lt hx))
      have i4 := ix_rowT (a := q) (x := ap p (ap (bk n q) (ap (bk n p) x))) (by rw [hq.len]; exact hp.ap_lt (hbq.ap_lt (hbp.ap_lt hx)))
      exact ⟨[.v (sheet p q), .v (.tuple (nD (bk n p))), .v (.tuple (nD (bk n q))), .v (.tuple (nD p)), .v (.tuple (nD q)), .v (.int x)], .v (.int (trn n p q x : Nat)), by simp, by simp [i1, i2, i3, i4, trn], rfl⟩
  unfold b_turn_row
  simp [unp_sheet, e1, e2, h3]
theorem trn_lt {p q : List Nat} {n x : Nat} (hp : Pm p n) (hq : Pm q n) (hx : x < n) : trn n p q x < n := hq.ap_lt (hp.ap_lt ((bk_pm hq).ap_lt ((bk_pm hp).ap_lt hx)))

/-! rounds of an order -/
def it (r : List Nat) : Nat → Nat → Nat
  | 0, x => x
  | k + 1, x => ap r (it r k x)
theorem it_lt {r : List Nat} {n x : Nat} (h : Pm r n) (hx : x < n) : ∀ k, it r k x < n
  | 0 => hx
  | k + 1 => h.ap_lt (it_lt h hx k)
theorem it_add (r : List Nat) (x : Nat) (b : Nat) : ∀ a, it r (a + b) x = it r a (it r b x)
  | 0 => by rw [Nat.zero_add]; rfl
  | a + 1 => by
    rw [Nat.succ_add]
    show ap r (it r (a + b) x) = ap r (it r a (it r b x))
    rw [it_add r x b a]
theorem it_inj {r : List Nat} {n x y : Nat} (h : Pm r n) (hx : x < n) (hy : y < n) : ∀ k, it r k x = it r k y → x = y
  | 0, e => e
  | k + 1, e => it_inj h hx hy k (h.ap_inj (it_lt h hx k) (it_lt h hy k) e)
theorem it_back {r : List Nat} {n x : Nat} (h : Pm r n) (hx : x < n) {i j : Nat} (hij : i ≤ j) (e : it r i x = it r j x) : it r (j - i) x = x := by
  have : it r i (it r (j - i) x) = it r i x := by
    rw [← it_add, Nat.add_sub_cancel' hij, e]
  exact it_inj h (it_lt h hx _) hx i this
theorem it_ex {r : List Nat} {n x : Nat} (h : Pm r n) (hx : x < n) : ∃ k, k < n ∧ it r (k + 1) x = x := by
  refine Classical.byContradiction fun hno => ?_
  have hnd : ((List.range (n + 1)).map fun k => it r k x).Nodup := by
    rw [List.nodup_iff_pairwise_ne, List.pairwise_map]
    refine List.Pairwise.imp_of_mem (fun {i j} hi hj hlt e => ?_) (List.pairwise_lt_range (n := n + 1))
    have hi := List.mem_range.mp hi
    have hj := List.mem_range.mp hj
    refine hno ⟨j - i - 1, by omega, ?_⟩
    rw [show j - i - 1 + 1 = j - i by omega]
    exact it_back h hx (Nat.le_of_lt hlt) e
  have := List.Nodup.length_le_of_subset hnd (l₂ := List.range n) fun y hy => by
    obtain ⟨k, _, e⟩ := List.mem_map.mp hy
    exact List.mem_range.mpr (e ▸ it_lt h hx k)
  simp at this
  omega
/-- the least way round -/
theorem ord_ex {r : List Nat} {n x : Nat} (h : Pm r n) (hx : x < n) : ∃ k, 0 < k ∧ k ≤ n ∧ it r k x = x ∧ ∀ j, 0 < j → j < k → it r j x ≠ x := by
  obtain ⟨k, hk, e⟩ := it_ex h hx
  have : ∀ m, (∃ k, k < m ∧ it r (k + 1) x = x) → ∃ k, 0 < k ∧ k ≤ m ∧ it r k x = x ∧ ∀ j, 0 < j → j < k → it r j x ≠ x := by
    intro m
    induction m with
    | zero => intro ⟨k, hk, _⟩; omega
    | succ m ih =>
      intro ⟨k, hk, e⟩
      by_cases hm : ∃ k, k < m ∧ it r (k + 1) x = x
      · obtain ⟨k, a, b, c⟩ := ih hm
        exact ⟨k, a, by omega, c⟩
      · have : k = m := by
          refine Classical.byContradiction fun hne => hm ⟨k, by omega, e⟩
        subst this
        exact ⟨k + 1, by omega, by omega, e, fun j h1 h2 e2 => hm ⟨j - 1, by omega, by rw [show j - 1 + 1 = j by omega]; exact e2⟩⟩
  obtain ⟨k, a, b, c⟩ := this n ⟨k, hk, e⟩
  exact ⟨k, a, b, c⟩
def ordr (r : List Nat) (n x : Nat) : Nat := ((List.range n).find? fun k => decide (it r (k + 1) x = x)).getD 0 + 1
theorem ordr_spec {r : List Nat} {n x : Nat} (h : Pm r n) (hx : x < n) : 0 < ordr r n x ∧ ordr r n x ≤ n ∧ it r (ordr r n x) x = x ∧ ∀ j, 0 < j → j < ordr r n x → it r j x ≠ x := by
  obtain ⟨k, a, b, c, d⟩ := ord_ex h hx
  have e : (List.range n).find? (fun k => decide (it r (k + 1) x = x)) = some (k - 1) := List.find?_range_eq_some.mpr ⟨by rw [show k - 1 + 1 = k by omega]; simpa using c, List.mem_range.mpr (by omega), fun j hj => by
    have := d (j + 1) (by omega) (by omega)
    simpa using this⟩
  have e2 : ordr r n x = k := by
    unfold ordr
    rw [e]
    show k - 1 + 1 = k
    omega
  rw [e2]
  exact ⟨a, b, c, d⟩
theorem ordr_of {r : List Nat} {n x k : Nat} (h : Pm r n) (hx : x < n) (h0 : 0 < k) (e : it r k x = x) (hm : ∀ j, 0 < j → j < k → it r j x ≠ x) : ordr r n x = k := by
  obtain ⟨a, _, c, d⟩ := ordr_spec h hx
  rcases Nat.lt_trichotomy (ordr r n x) k with q | q | q
  · exact absurd c (hm _ a q)
  · exact q
  · exact absurd e (d k h0 q)
/-- the round from x on -/
def cyc (r : List Nat) (n x : Nat) : List Nat := (List.range (ordr r n x)).map fun k => it r k x
@[simp] theorem cyc_len (r : List Nat) (n x : Nat) : (cyc r n x).length = ordr r n x := by simp [cyc]
theorem cyc_mem {r : List Nat} {n x : Nat} (h : Pm r n) (hx : x < n) (k : Nat) : it r k x ∈ cyc r n x := by
  obtain ⟨a, _, c, _⟩ := ordr_spec h hx
  have key : ∀ q m, it r (m + q * ordr r n x) x = it r m x := by
    intro q
    induction q with
    | zero => intro m; simp
    | succ q ih =>
      intro m
      rw [Nat.succ_mul, ← Nat.add_assoc, it_add, c]
      exact ih m
  have e : it r k x = it r (k % ordr r n x) x := by
    have := key (k / ordr r n x) (k % ordr r n x)
    rw [Nat.mul_comm, Nat.mod_add_div] at this
    exact this
  rw [e]
  exact List.mem_map.mpr ⟨_, List.mem_range.mpr (Nat.mod_lt _ a), rfl⟩
theorem mem_cyc {r : List Nat} {n x y : Nat} (h : y ∈ cyc r n x) : ∃ k, k < ordr r n x ∧ it r k x = y := by
  obtain ⟨k, hk, e⟩ := List.mem_map.mp h
  exact ⟨k, List.mem_range.mp hk, e⟩
theorem cyc_self {r : List Nat} {n x : Nat} (h : Pm r n) (hx : x < n) : x ∈ cyc r n x := cyc_mem h hx 0
theorem cyc_lt {r : List Nat} {n x y : Nat} (h : Pm r n) (hx : x < n) (hy : y ∈ cyc r n x) : y < n := by
  obtain ⟨k, _, e⟩ := mem_cyc hy
  exact e ▸ it_lt h hx k
theorem cyc_nd {r : List Nat} {n x : Nat} (h : Pm r n) (hx : x < n) : (cyc r n x).Nodup := by
  obtain ⟨a, _, c, d⟩ := ordr_spec h hx
  unfold cyc
  rw [List.nodup_iff_pairwise_ne, List.pairwise_map]
  refine List.Pairwise.imp_of_mem (fun {i j} hi hj hlt e => ?_) (List.pairwise_lt_range (n := ordr r n x))
  have hj := List.mem_range.mp hj
  exact d (j - i) (by omega) (by omega) (it_back h hx (Nat.le_of_lt hlt) e)
/-- rounds are alike or apart -/
theorem cyc_sym {r : List Nat} {n x y : Nat} (h : Pm r n) (hx : x < n) (hy : y ∈ cyc r n x) : x ∈ cyc r n y := by
  obtain ⟨k, hk, e⟩ := mem_cyc hy
  obtain ⟨_, _, c, _⟩ := ordr_spec h hx
  have := cyc_mem h (cyc_lt h hx hy) (ordr r n x - k)
  rw [← e, ← it_add, Nat.sub_add_cancel (Nat.le_of_lt hk), c] at this
  rw [← e]
  exact this
theorem cyc_trans {r : List Nat} {n x y z : Nat} (h : Pm r n) (hx : x < n) (hy : y ∈ cyc r n x) (hz : z ∈ cyc r n y) : z ∈ cyc r n x := by
  obtain ⟨k, _, e⟩ := mem_cyc hy
  obtain ⟨l, _, e2⟩ := mem_cyc hz
  rw [← e2, ← e, ← it_add]
  exact cyc_mem h hx _
/-- who opens a round: the least of it -/
def opens (r : List Nat) (n x : Nat) : Bool := (List.range x).all fun y => decide (x ∉ cyc r n y)
def reps (r : List Nat) (n i : Nat) : List Nat := (List.range i).filter (opens r n)
theorem opens_iff {r : List Nat} {n x : Nat} : opens r n x = true ↔ ∀ y, y < x → x ∉ cyc r n y := by
  unfold opens
  rw [List.all_eq_true]
  exact ⟨fun h y hy => by simpa using h y (List.mem_range.mpr hy), fun h y hy => by simpa using h y (List.mem_range.mp hy)⟩
theorem reps_succ (r : List Nat) (n i : Nat) : reps r n (i + 1) = if opens r n i = true then reps r n i ++ [i] else reps r n i := by
  unfold reps
  rw [List.range_succ, List.filter_append]
  split
  · rename_i h; simp [h]
  · rename_i h; simp [h]
/-- each square stands in one round of an opener -/
theorem rep_ex {r : List Nat} {n : Nat} (h : Pm r n) : ∀ m x, x < m → x < n → ∃ y, y ≤ x ∧ opens r n y = true ∧ x ∈ cyc r n y
  | 0, _, hm, _ => by omega
  | m + 1, x, hm, hx => by
    by_cases ho : opens r n x = true
    · exact ⟨x, Nat.le_refl _, ho, cyc_self h hx⟩
    · have : ∃ y, y < x ∧ x ∈ cyc r n y := Classical.byContradiction fun hno => ho (opens_iff.mpr fun y hy hm => hno ⟨y, hy, hm⟩)
      obtain ⟨y, hy, hxy⟩ := this
      obtain ⟨z, hz, ho2, hyz⟩ := rep_ex h m y (by omega) (by omega)
      exact ⟨z, by omega, ho2, cyc_trans h (by omega) hyz hxy⟩
theorem rep_uniq {r : List Nat} {n x y z : Nat} (h : Pm r n) (hy : y < n) (hz : z < n) (oy : opens r n y = true) (oz : opens r n z = true) (a : x ∈ cyc r n y) (b : x ∈ cyc r n z) : y = z := by
  have h1 : z ∈ cyc r n y := cyc_trans h hy a (cyc_sym h hz b)
  have h2 : y ∈ cyc r n z := cyc_trans h hz b (cyc_sym h hy a)
  rcases Nat.lt_trichotomy y z with q | q | q
  · exact absurd h1 (opens_iff.mp oz y q)
  · exact q
  · exact absurd h2 (opens_iff.mp oy z q)
/-- all rounds together are all squares -/
theorem rounds_perm {r : List Nat} {n : Nat} (h : Pm r n) : ((reps r n n).map (cyc r n)).flatten.Perm (List.range n) := by
  have hlt : ∀ y ∈ reps r n n, y < n ∧ opens r n y = true := fun y hy => by
    have := List.mem_filter.mp hy
    exact ⟨List.mem_range.mp this.1, this.2⟩
  have hnd : (reps r n n).Nodup := List.Pairwise.filter _ List.nodup_range
  refine (List.perm_ext_iff_of_nodup ?_ List.nodup_range).mpr fun x => ?_
  · rw [List.nodup_iff_pairwise_ne, List.pairwise_flatten]
    refine ⟨fun l hl => ?_, ?_⟩
    · obtain ⟨y, hy, e⟩ := List.mem_map.mp hl
      exact e ▸ (List.nodup_iff_pairwise_ne.mp (cyc_nd h (hlt y hy).1))
    · rw [List.pairwise_map]
      refine List.Pairwise.imp_of_mem (fun {y z} hy hz hne => ?_) hnd
      intro u hu v hv e
      subst e
      exact hne (rep_uniq h (hlt y hy).1 (hlt z hz).1 (hlt y hy).2 (hlt z hz).2 hu hv)
  · rw [List.mem_flatten, List.mem_range]
    constructor
    · intro ⟨l, hl, hx⟩
      obtain ⟨y, hy, e⟩ := List.mem_map.mp hl
      exact cyc_lt h (hlt y hy).1 (e ▸ hx)
    · intro hx
      obtain ⟨y, hy, ho, hxy⟩ := rep_ex h (x + 1) x (by omega) hx
      exact ⟨_, List.mem_map.mpr ⟨y, List.mem_filter.mpr ⟨List.mem_range.mpr (by omega), ho⟩, rfl⟩, hxy⟩

theorem ix_rowBB {a : List Nat} {x : Nat} (h : x < a.length) : ixR (.b (.list (nD a))) (.b (.int x)) = .ok (.b (.int (ap a x : Nat))) := by
  refine (alt_r rfl).trans (alt_l ?_)
  show (match (Rv.b (.list (nD a))).item (x : Int) with | some r => Er.ok r | none => .bad) = _
  have : (Rv.b (.list (nD a))).item (x : Int) = some (.b (.int (ap a x : Nat))) := by
    show (atI (nD a) (x : Int)).map Rv.b = _
    rw [at_nat, nD_get, ap_get h]
    rfl
  rw [this]
def pre (r : List Nat) (x j : Nat) : List Nat := (List.range j).map fun k => it r k x
theorem pre_succ (r : List Nat) (x j : Nat) : pre r x (j + 1) = pre r x j ++ [it r j x] := by simp [pre, List.range_succ]
def rbEnv (r : List Nat) (x j : Nat) : Env := [.b (.list (nD r)), .v (.int x), .o (nD (pre r x j)), .b (.int (it r j x : Nat))]
def rbBody : SF := (frzS 3 (seqS (appS 2 (varF 3)) (asgS (binF ixR (varF 0) (varF 3)) (asgn 3))))
theorem round_by_ok {r : List Nat} {n x : Nat} (h : Pm r n) (hx : x < n) (hn : n ≤ 1000) : f_round_by [.b (.list (nD r)), .v (.int x)] = .ret (.o (nD (cyc r n x))) := by
  obtain ⟨h0, h1, h2, h3⟩ := ordr_spec h hx
  have e0 := ix_rowB (a := r) (x := x) (by rw [h.len]; exact hx)
  have hw := whileS_go (t := tstF (binF neR (varF 3) (varF 1))) (s := rbBody) (ρ := rbEnv r x 1) (fun ρ => ∃ j, 0 < j ∧ j ≤ ordr r n x ∧ ρ = rbEnv r x j) (fun ρ => ordr r n x - (match slot ρ 2 with | .o xs => xs.length | _ => 0))
    ⟨1, by omega, by omega, rfl⟩ (by show ordr r n x - _ < 1000000; omega) ?_
  · obtain ⟨ρ', e, ⟨j, j0, j1, eρ⟩, ht⟩ := hw
    subst eρ
    have hj : it r j x = x := by
      unfold rbEnv at ht
      simp at ht
      exact ht
    have : j = ordr r n x := by
      refine Classical.byContradiction fun hne => h3 j j0 (by omega) hj
    subst this
    refine fnR_of ?_
    show (seqS (asgS (lstF (aCons (varF 1) aNil)) (asgn 2)) (seqS (asgS (binF ixR (varF 0) (varF 1)) (asgn 3)) (seqS (whileS (tstF (binF neR (varF 3) (varF 1))) rbBody) (retVar 2)))) [.b (.list (nD r)), .v (.int x), .u, .u] = _
    rw [seq_go (ρ' := [.b (.list (nD r)), .v (.int x), .o (nD [x]), .u]) (by simp [nD_one])]
    rw [seq_go (ρ' := rbEnv r x 1) (by
      show _ = Res.next [.b (.list (nD r)), .v (.int x), .o (nD [x]), .b (.int (ap r x : Nat))]
      simp [e0]), seq_go e]
    unfold rbEnv
    simp
    rfl
  · intro ρ ⟨j, j0, j1, eρ⟩
    subst eρ
    refine ⟨decide (¬ it r j x = x), by unfold rbEnv; simp, fun hb => ?_⟩
    have hj : ¬ it r j x = x := by simpa using hb
    have hlt : j < ordr r n x := by
      refine Nat.lt_of_le_of_ne j1 fun e => hj ?_
      rw [e]
      exact h2
    have e1 := ix_rowBB (a := r) (x := it r j x) (by rw [h.len]; exact it_lt h hx j)
    have hl : (pre r x j).length < 100000 := by simp [pre]; omega
    refine ⟨rbEnv r x (j + 1), ?_, ⟨j + 1, by omega, by omega, rfl⟩, ?_⟩
    · unfold rbBody rbEnv
      rw [pre_succ, nD_app, nD_one]
      simp [appS, hl, e1]
      rfl
    · show ordr r n x - (nD (pre r x (j + 1))).length < ordr r n x - (nD (pre r x j)).length
      simp [pre]
      omega
/-! the rounds, one behind the other -/
def kvT (S : List Nat) : List (Key × PyData) := S.map fun z : Nat => (.inl (z : Int), .bool true)
theorem kvT_any (S : List Nat) (z : Nat) : ((kvT S).any fun kv => decide (kv.1 = .inl (z : Int))) = decide (z ∈ S) := by
  induction S with
  | nil => rfl
  | cons y S ih =>
    show (decide ((Sum.inl (y : Int) : Key) = .inl (z : Int)) || (kvT S).any fun kv => decide (kv.1 = .inl (z : Int))) = _
    rw [ih, ← Bool.decide_or]
    refine decide_eq_decide.mpr ?_
    rw [List.mem_cons]
    refine or_congr_left ⟨fun e => ?_, fun e => by rw [e]⟩
    injection e with e
    omega
theorem kvT_set {S : List Nat} {z : Nat} (h : z ∉ S) : setK (kvT S) (.inl (z : Int)) (.bool true) = kvT (S ++ [z]) := by
  unfold setK
  rw [kvT_any, if_neg (by simpa using h)]
  simp [kvT]
theorem getK_kvT (S : List Nat) (z : Nat) : (getK (kvT S) (.inl (z : Int))).isSome = decide (z ∈ S) := by
  induction S with
  | nil => rfl
  | cons y S ih =>
    unfold getK at ih ⊢
    show (((((Sum.inl (y : Int) : Key), PyData.bool true) :: kvT S).find? fun kv => decide (kv.1 = .inl (z : Int))).map (·.2)).isSome = _
    rw [List.find?_cons]
    by_cases e : y = z
    · subst e
      simp
    · have : decide (((Sum.inl (y : Int) : Key), PyData.bool true).1 = .inl (z : Int)) = false := decide_eq_false fun h => by
        injection h with h
        omega
      rw [this]
      dsimp only
      rw [ih]
      refine decide_eq_decide.mpr ?_
      rw [List.mem_cons]
      exact ⟨.inr, fun h => h.resolve_left (Ne.symm e)⟩
theorem in_kvT (S : List Nat) (z : Nat) : inR true (.v (.int z)) (.wk (kvT S)) = .ok (.v (.bool (!decide (z ∈ S)))) := by
  refine alt_l ?_
  unfold inDic
  simp only [dat_v, Option.bind_some, keyD]
  rw [getK_kvT]
  rfl
def flt (r : List Nat) (n i : Nat) : List Nat := ((reps r n i).map (cyc r n)).flatten
theorem mem_flt {r : List Nat} {n x : Nat} (h : Pm r n) (hx : x < n) : x ∈ flt r n x ↔ opens r n x = false := by
  unfold flt
  rw [List.mem_flatten]
  constructor
  · intro ⟨l, hl, hm⟩
    obtain ⟨y, hy, e⟩ := List.mem_map.mp hl
    have hy := List.mem_filter.mp hy
    refine Bool.eq_false_iff.mpr fun ho => opens_iff.mp ho y (List.mem_range.mp hy.1) (e ▸ hm)
  · intro ho
    obtain ⟨y, hy, o2, hxy⟩ := rep_ex h (x + 1) x (by omega) hx
    have hne : y ≠ x := fun e => by subst e; rw [ho] at o2; cases o2
    exact ⟨_, List.mem_map.mpr ⟨y, List.mem_filter.mpr ⟨List.mem_range.mpr (by omega), o2⟩, rfl⟩, hxy⟩
theorem flt_apart {r : List Nat} {n x : Nat} (h : Pm r n) (hx : x < n) (ho : opens r n x = true) {y : Nat} (hy : y ∈ cyc r n x) : y ∉ flt r n x := by
  intro hm
  unfold flt at hm
  obtain ⟨l, hl, hm⟩ := List.mem_flatten.mp hm
  obtain ⟨z, hz, e⟩ := List.mem_map.mp hl
  subst e
  have hz := List.mem_filter.mp hz
  have hzx := List.mem_range.mp hz.1
  have := rep_uniq h hx (show z < n by omega) ho hz.2 hy hm
  omega
theorem flt_succ (r : List Nat) (n i : Nat) : flt r n (i + 1) = if opens r n i = true then flt r n i ++ cyc r n i else flt r n i := by
  unfold flt
  rw [reps_succ]
  split
  · simp
  · rfl
theorem flt_len {r : List Nat} {n : Nat} (h : Pm r n) (i : Nat) (hi : i ≤ n) : (flt r n i).length ≤ n := by
  have h1 : ∀ k, (flt r n i).length ≤ (flt r n (i + k)).length := by
    intro k
    induction k with
    | zero => exact Nat.le_refl _
    | succ k ih =>
      rw [← Nat.add_assoc, flt_succ]
      split
      · rw [List.length_append]; omega
      · exact ih
  have := h1 (n - i)
  rw [Nat.add_sub_cancel' hi] at this
  have h2 := (rounds_perm h).length_eq
  rw [List.length_range] at h2
  unfold flt at this ⊢
  omega

theorem trn_pm {p q : List Nat} {n : Nat} (hp : Pm p n) (hq : Pm q n) : Pm (rowOf n (trn n p q)) n := by
  have hbp := bk_pm hp
  have hbq := bk_pm hq
  refine pm_rowOf (fun x hx => trn_lt hp hq hx) fun x y hx hy e => ?_
  unfold trn at e
  have l1 := hbp.ap_lt hx
  have l2 := hbp.ap_lt hy
  have m1 := hbq.ap_lt l1
  have m2 := hbq.ap_lt l2
  exact hbp.ap_inj hx hy (hbq.ap_inj l1 l2 (hp.ap_inj m1 m2 (hq.ap_inj (hp.ap_lt m1) (hp.ap_lt m2) e)))

def rnds (r : List Nat) (n i : Nat) : List PyData := (reps r n i).map fun y => .list (nD (cyc r n y))
def coEnv (sh : PyData) (r S : List Nat) (found : List PyData) (x4 x5 x6 : Sl) : Env := [.v sh, .o (nD r), .k (kvT S), .o found, x4, x5, x6]
def coSet : SF := setIt 2 (varF 6) (cF (.bool true))
theorem co_set {sh : PyData} {r : List Nat} {found : List PyData} {x4 x5 : Sl} : ∀ (L S : List Nat) (x6 : Sl), L.Nodup → (∀ z ∈ L, z ∉ S) → S.length + L.length < 100000 → ∃ x6', forL (asgn 6) coSet (L.map fun z : Nat => Rv.v (.int (z : Int))) (coEnv sh r S found x4 x5 x6) = .next (coEnv sh r (S ++ L) found x4 x5 x6')
  | [], S, x6, _, _, _ => ⟨x6, by simp⟩
  | z :: L, S, x6, hn, hs, hl => by
    have hz := hs z (List.mem_cons_self ..)
    have hn' := List.nodup_cons.mp hn
    simp at hl
    have hkl : (kvT S).length < 100000 := by simp [kvT]; omega
    have e1 : coSet (coEnv sh r S found x4 x5 (.v (.int z))) = .next (coEnv sh r (S ++ [z]) found x4 x5 (.v (.int z))) := by
      rw [coEnv, coEnv, ← kvT_set hz]
      unfold coSet setIt
      simp [keyD, hkl]
    obtain ⟨x6', e2⟩ := co_set (sh := sh) (r := r) (found := found) (x4 := x4) (x5 := x5) L (S ++ [z]) (.v (.int z)) hn'.2 (fun y hy hm => by
      rcases List.mem_append.mp hm with h | h
      · exact hs y (List.mem_cons_of_mem _ hy) h
      · have := List.mem_singleton.mp h
        subst this
        exact hn'.1 hy) (by simp; omega)
    refine ⟨x6', ?_⟩
    rw [List.append_assoc, List.singleton_append] at e2
    rw [List.map_cons, forL_next (ρ1 := coEnv sh r S found x4 x5 (.v (.int z))) rfl e1]
    exact e2
def coIn : SF := (ifS (tstF (binF (inR true) (varF 4) (varF 2))) (seqS (asgS (callF f_round_by (aCons (varF 1) (aCons (varF 4) aNil))) (asgn 5))
  (frzS 5 (seqS (forS (itF itS (varF 5)) (asgn 6) coSet)
  (frzS 5 (appS 3 (varF 5))))))
  skipS)
theorem co_in {sh : PyData} {r : List Nat} {n i : Nat} {x5 x6 : Sl} (h : Pm r n) (hi : i < n) (hn : n ≤ 1000) : ∃ x5' x6', coIn (coEnv sh r (flt r n i) (rnds r n i) (.v (.int i)) x5 x6) = .next (coEnv sh r (flt r n (i + 1)) (rnds r n (i + 1)) (.v (.int i)) x5' x6') := by
  have hin := in_kvT (flt r n i) i
  by_cases ho : opens r n i = true
  · have hnot : i ∉ flt r n i := fun hm => by
      rw [(mem_flt h hi).mp hm] at ho
      cases ho
    have hfl := flt_len h i (Nat.le_of_lt hi)
    have hcl := cyc_len r n i
    obtain ⟨o0, o1, _, _⟩ := ordr_spec h hi
    have e1 := round_by_ok h hi hn
    obtain ⟨x6', e2⟩ := co_set (sh := sh) (r := r) (found := rnds r n i) (x4 := .v (.int i)) (x5 := .v (.list (nD (cyc r n i)))) (cyc r n i) (flt r n i) x6 (cyc_nd h hi) (fun z hz => flt_apart h hi ho hz) (by omega)
    have hrl : (rnds r n i).length < 100000 := by
      have : (reps r n i).length ≤ i := by
        have := List.length_filter_le (opens r n) (List.range i)
        rw [List.length_range] at this
        exact this
      simp [rnds]
      omega
    refine ⟨.v (.list (nD (cyc r n i))), x6', ?_⟩
    have e3 : flt r n (i + 1) = flt r n i ++ cyc r n i := by rw [flt_succ, if_pos ho]
    have e4 : rnds r n (i + 1) = rnds r n i ++ [.list (nD (cyc r n i))] := by
      unfold rnds
      rw [reps_succ, if_pos ho]
      simp
    rw [e3, e4]
    have e5 : itS (.v (.list (nD (cyc r n i)))) = .ok ((cyc r n i).map fun z : Nat => Rv.v (.int (z : Int))) := by simp [nD]
    unfold coEnv at e2 ⊢
    unfold coIn
    have hd : decide (i ∈ flt r n i) = false := decide_eq_false hnot
    rw [hd] at hin
    rw [ifS_e, show tstF (binF (inR true) (varF 4) (varF 2)) [Sl.v sh, .o (nD r), .k (kvT (flt r n i)), .o (rnds r n i), .v (.int i), x5, x6] = .ok true by simp [hin]]
    rw [thenT_ok, if_pos rfl]
    rw [seq_go (ρ' := [Sl.v sh, .o (nD r), .k (kvT (flt r n i)), .o (rnds r n i), .v (.int i), .o (nD (cyc r n i)), x6]) (by simp [e1])]
    rw [frzS_e]
    simp only [frzE_e, slot_5, set_5, sfrz_o]
    rw [seq_go (ρ' := [Sl.v sh, .o (nD r), .k (kvT (flt r n i ++ cyc r n i)), .o (rnds r n i), .v (.int i), .v (.list (nD (cyc r n i))), x6']) (by
      rw [forS_e, itF_e, varF_e]
      simp only [slot_5, rd_v, bind_ok]
      rw [e5]
      exact e2)]
    simp [appS, hrl]
  · have ho' : opens r n i = false := by simpa using ho
    have hm : i ∈ flt r n i := (mem_flt h hi).mpr ho'
    have hd : decide (i ∈ flt r n i) = true := decide_eq_true hm
    rw [hd] at hin
    refine ⟨x5, x6, ?_⟩
    have e3 : flt r n (i + 1) = flt r n i := by rw [flt_succ, if_neg ho]
    have e4 : rnds r n (i + 1) = rnds r n i := by
      unfold rnds
      rw [reps_succ, if_neg ho]
    rw [e3, e4]
    unfold coEnv coIn
    simp [hin]
theorem corners_ok {p q : List Nat} {n : Nat} (hp : Pm p n) (hq : Pm q n) (hn : n ≤ 1000) : f_corners [.v (sheet p q)] = .ret (.o (rnds (rowOf n (trn n p q)) n n)) := by
  have hr := trn_pm hp hq
  have e1 := turn_row_ok hp hq hn
  have hsz := size_ok (p := p) (q := q) hp.len
  generalize rowOf n (trn n p q) = r at *
  refine fnR_of ?_
  show (seqS (asgS (callF f_turn_row (aCons (varF 0) aNil)) (asgn 1)) (seqS (asgS (fun _ => .ok (.ok [])) (asgn 2)) (seqS (asgS (lstF aNil) (asgn 3)) (seqS (forS (rg1F (callF f_size (aCons (varF 0) aNil))) (asgn 4) coIn) (retVar 3))))) [.v (sheet p q), .u, .u, .u, .u, .u, .u] = _
  rw [seq_go (ρ' := [.v (sheet p q), .o (nD r), .u, .u, .u, .u, .u]) (by simp [e1])]
  rw [seq_go (ρ' := [.v (sheet p q), .o (nD r), .k [], .u, .u, .u, .u]) (by simp)]
  rw [seq_go (ρ' := [.v (sheet p q), .o (nD r), .k [], .o [], .u, .u, .u]) (by simp)]
  obtain ⟨ρ', e, x4, x5, x6, eρ⟩ := for_rg (f := callF f_size (aCons (varF 0) aNil)) (s := coIn) (ρ := [.v (sheet p q), .o (nD r), .k [], .o [], .u, .u, .u]) (n := n) 4
    (fun i ρ => ∃ x4 x5 x6, ρ = coEnv (sheet p q) r (flt r n i) (rnds r n i) x4 x5 x6) (by simp [hsz]) (by omega) ⟨.u, .u, .u, rfl⟩ fun i ρ hi ⟨x4, x5, x6, eρ⟩ => by
      subst eρ
      obtain ⟨y5, y6, e⟩ := co_in (sh := sheet p q) (x5 := x5) (x6 := x6) hr hi hn
      exact ⟨_, e, _, _, _, rfl⟩
  subst eρ
  rw [seq_go e]
  unfold coEnv
  simp

/-! borders -/
def bigs (r : List Nat) (n : Nat) : List (List Nat) := ((reps r n n).map (cyc r n)).filter fun c => decide (1 < c.length)
def marksL (p q : List Nat) (n : Nat) : List Nat := if (bigs (rowOf n (trn n p q)) n).flatten = [] then [0] else nsrt (bigs (rowOf n (trn n p q)) n).flatten
def boIn : SF := (ifS (tstF (binF gtR (unF lenR (varF 2)) (cF (.int 1)))) (extS 1 (varF 2)) skipS)
theorem bo_loop {s0 : Sl} : ∀ (cs : List (List Nat)) (acc : List Nat) (x : Sl), acc.length + cs.flatten.length ≤ 100000 → ∃ x', forL (asgn 2) boIn (cs.map fun c => Rv.v (.list (nD c))) [s0, .o (nD acc), x] = .next [s0, .o (nD (acc ++ (cs.filter fun c => decide (1 < c.length)).flatten)), x']
  | [], acc, x, _ => ⟨x, by simp⟩
  | c :: cs, acc, x, hl => by
    rw [List.flatten_cons, List.length_append] at hl
    by_cases h : 1 < c.length
    · obtain ⟨x', e⟩ := bo_loop (s0 := s0) cs (acc ++ c) (.v (.list (nD c))) (by rw [List.length_append]; omega)
      refine ⟨x', ?_⟩
      have hz : (1 : Int) < c.length := by omega
      have hl2 : acc.length + c.length ≤ 100000 := by omega
      rw [List.map_cons, forL_next (ρ2 := [s0, .o (nD (acc ++ c)), .v (.list (nD c))]) rfl (by
        unfold boIn extS
        have z : tstF (binF gtR (unF lenR (varF 2)) (cF (.int 1))) [s0, .o (nD acc), .v (.list (nD c))] = .ok true := by simp [nD, hz]
        show ifS _ _ _ [s0, .o (nD acc), .v (.list (nD c))] = _
        rw [ifS_e, z]
        simp [nD_app, hl2])]
      rw [e, List.filter_cons_of_pos (by simpa using h), List.flatten_cons, List.append_assoc]
    · obtain ⟨x', e⟩ := bo_loop (s0 := s0) cs acc (.v (.list (nD c))) (by omega)
      refine ⟨x', ?_⟩
      have hz : ¬ (1 : Int) < c.length := by omega
      rw [List.map_cons, forL_next (ρ2 := [s0, .o (nD acc), .v (.list (nD c))]) rfl (by
        unfold boIn
        show ifS _ _ _ [s0, .o (nD acc), .v (.list (nD c))] = _
        simp [nD, hz])]
      rw [e, List.filter_cons_of_neg (by simpa using h)]
theorem borders_ok {p q : List Nat} {n : Nat} (hp : Pm p n) (hq : Pm q n) (hn : n ≤ 1000) : f_borders [.v (sheet p q)] = .ret (.o (nD (marksL p q n))) := by
  have e1 := corners_ok hp hq hn
  have hr := trn_pm hp hq
  unfold marksL
  generalize rowOf n (trn n p q) = r at *
  have hpl := (rounds_perm hr).length_eq
  rw [List.length_range] at hpl
  obtain ⟨x', e⟩ := bo_loop (s0 := .v (sheet p q)) ((reps r n n).map (cyc r n)) [] .u (by rw [hpl]; simp; omega)
  rw [List.nil_append] at e
  have e2 : itF itS (callF f_corners (aCons (varF 0) aNil)) [.v (sheet p q), .o [], .u] = .ok (((reps r n n).map (cyc r n)).map fun c => Rv.v (.list (nD c))) := by
    simp [e1, rnds]
  have hb : ((reps r n n).map (cyc r n)).filter (fun c => decide (1 < c.length)) = bigs r n := rfl
  rw [hb] at e
  generalize (bigs r n).flatten = B at *
  refine fnR_of ?_
  show (seqS _ (seqS (forS (itF itS (callF f_corners (aCons (varF 0) aNil))) (asgn 2) boIn) _)) [.v (sheet p q), .u, .u] = _
  rw [seq_go (ρ' := [.v (sheet p q), .o [], .u]) (by simp)]
  rw [seq_go (by rw [forS_e, e2]; exact e)]
  by_cases h : B = []
  · rw [if_pos h, h]
    refine seq_ret ?_
    simp [nD]
  · rw [if_neg h]
    rw [seq_go (ρ' := [.v (sheet p q), .o (nD B), x']) (by simp [nD, h])]
    have hs := sort_nD (a := .v (.list (nD B))) (r := B) (dInts_nD _)
    simp [hs]
theorem marks_lt {p q : List Nat} {n : Nat} (hp : Pm p n) (hq : Pm q n) (h0 : 0 < n) : ∀ z ∈ marksL p q n, z < n := by
  have hr := trn_pm hp hq
  unfold marksL
  generalize rowOf n (trn n p q) = r at *
  intro z hz
  split at hz
  · have := List.mem_singleton.mp hz
    omega
  · have hz := (nsrt_perm _).mem_iff.mp hz
    obtain ⟨c, hc, hzc⟩ := List.mem_flatten.mp hz
    obtain ⟨y, hy, rfl⟩ := List.mem_map.mp (List.mem_filter.mp hc).1
    exact cyc_lt hr (List.mem_range.mp (List.mem_filter.mp hy).1) hzc

/-! the rows of a sheet, its borders, its bands -/
theorem atI_last {xs : List PyData} {z : PyData} : atI (xs ++ [z]) (-1) = some z := by
  unfold atI ixN
  rw [if_neg (by decide), if_pos (by rw [List.length_append, List.length_singleton]; omega)]
  show (xs ++ [z])[((-1 : Int) + ((xs ++ [z]).length : Int)).toNat]? = some z
  have : ((-1 : Int) + ((xs ++ [z]).length : Int)).toNat = xs.length := by
    rw [List.length_append, List.length_singleton]
    omega
  rw [this]
  simp
def roEnv (sh : PyData) (p S : List Nat) (found : List PyData) (x4 x5 x6 : Sl) : Env := [.v sh, .v (.tuple (nD p)), .k (kvT S), .o found, x4, x5, x6]
def roSet : SF := setIt 2 (varF 6) (cF (.bool true))
theorem ro_set {sh : PyData} {p : List Nat} {found : List PyData} {x4 x5 : Sl} : ∀ (L S : List Nat) (x6 : Sl), L.Nodup → (∀ z ∈ L, z ∉ S) → S.length + L.length < 100000 → ∃ x6', forL (asgn 6) roSet (L.map fun z : Nat => Rv.v (.int (z : Int))) (roEnv sh p S found x4 x5 x6) = .next (roEnv sh p (S ++ L) found x4 x5 x6')
  | [], S, x6, _, _, _ => ⟨x6, by simp⟩
  | z :: L, S, x6, hn, hs, hl => by
    have hz := hs z (List.mem_cons_self ..)
    have hn' := List.nodup_cons.mp hn
    simp at hl
    have hkl : (kvT S).length < 100000 := by simp [kvT]; omega
    have e1 : roSet (roEnv sh p S found x4 x5 (.v (.int z))) = .next (roEnv sh p (S ++ [z]) found x4 x5 (.v (.int z))) := by
      rw [roEnv, roEnv, ← kvT_set hz]
      unfold roSet setIt
      simp [keyD, hkl]
    obtain ⟨x6', e2⟩ := ro_set (sh := sh) (p := p) (found := found) (x4 := x4) (x5 := x5) L (S ++ [z]) (.v (.int z)) hn'.2 (fun y hy hm => by
      rcases List.mem_append.mp hm with h | h
      · exact hs y (List.mem_cons_of_mem _ hy) h
      · have := List.mem_singleton.mp h
        subst this
        exact hn'.1 hy) (by simp; omega)
    refine ⟨x6', ?_⟩
    rw [List.append_assoc, List.singleton_append] at e2
    rw [List.map_cons, forL_next (ρ1 := roEnv sh p S found x4 x5 (.v (.int z))) rfl e1]
    exact e2
def roT : Env → Er Bool := tstF (binF neR (binF ixR (varF 1) (binF ixR (varF 5) (unF negR (cF (.int 1))))) (varF 4))
def roB : SF := appS 5 (binF ixR (varF 1) (binF ixR (varF 5) (unF negR (cF (.int 1)))))
theorem ro_next {sh : PyData} {p S : List Nat} {n i j : Nat} {found : List PyData} {x6 : Sl} (h : Pm p n) (hi : i < n) : (binF ixR (varF 1) (binF ixR (varF 5) (unF negR (cF (.int 1))))) (roEnv sh p S found (.v (.int i)) (.o (nD (pre p i (j + 1)))) x6) = .ok (.v (.int (it p (j + 1) i : Nat))) := by
  have e1 : ixR (.w (nD (pre p i (j + 1)))) (.v (.int (-1))) = .ok (.v (.int (it p j i : Nat))) := by
    rw [pre_succ, nD_app, nD_one]
    exact ixR_w atI_last
  have e2 := ix_rowT (a := p) (x := it p j i) (by rw [h.len]; exact it_lt h hi j)
  unfold roEnv
  simp [e1, e2]
  rfl
theorem ro_walk {sh : PyData} {p S : List Nat} {n i : Nat} {found : List PyData} {x6 : Sl} (h : Pm p n) (hi : i < n) (hn : n ≤ 1000) : whileS roT roB (roEnv sh p S found (.v (.int i)) (.o (nD [i])) x6) = .next (roEnv sh p S found (.v (.int i)) (.o (nD (cyc p n i))) x6) := by
  obtain ⟨h0, h1, h2, h3⟩ := ordr_spec h hi
  have hw := whileS_go (t := roT) (s := roB) (ρ := roEnv sh p S found (.v (.int i)) (.o (nD [i])) x6) (fun ρ => ∃ j, j < ordr p n i ∧ ρ = roEnv sh p S found (.v (.int i)) (.o (nD (pre p i (j + 1)))) x6) (fun ρ => ordr p n i - (match slot ρ 5 with | .o xs => xs.length | _ => 0))
    ⟨0, by omega, rfl⟩ (by show ordr p n i - _ < 1000000; omega) ?_
  · obtain ⟨ρ', e, ⟨j, j1, eρ⟩, ht⟩ := hw
    subst eρ
    have hj : it p (j + 1) i = i := by
      unfold roT at ht
      rw [tstF_e, binF_e, ro_next h hi] at ht
      unfold roEnv at ht
      simp at ht
      exact ht
    have : j + 1 = ordr p n i := by
      refine Classical.byContradiction fun hne => h3 (j + 1) (by omega) (by omega) hj
    rw [this] at e
    exact e
  · intro ρ ⟨j, j1, eρ⟩
    subst eρ
    refine ⟨decide (¬ it p (j + 1) i = i), ?_, fun hb => ?_⟩
    · unfold roT
      rw [tstF_e, binF_e, ro_next h hi]
      unfold roEnv
      simp
    have hj : ¬ it p (j + 1) i = i := by simpa using hb
    have hlt : j + 1 < ordr p n i := by
      refine Nat.lt_of_le_of_ne (by omega) fun e => hj ?_
      rw [e]
      exact h2
    have hl : (nD (pre p i (j + 1))).length < 100000 := by simp [nD, pre]; omega
    refine ⟨roEnv sh p S found (.v (.int i)) (.o (nD (pre p i (j + 2)))) x6, ?_, ⟨j + 1, by omega, rfl⟩, ?_⟩
    · unfold roB
      rw [appS_e (xs := nD (pre p i (j + 1))) rfl hl, ro_next h hi]
      rw [pre_succ p i (j + 1), nD_app, nD_one]
      rfl
    · show ordr p n i - (nD (pre p i (j + 2))).length < ordr p n i - (nD (pre p i (j + 1))).length
      simp [nD, pre]
      omega
def roIn : SF := (ifS (tstF (binF (inR true) (varF 4) (varF 2))) (seqS (asgS (lstF (aCons (varF 4) aNil)) (asgn 5))
  (seqS (whileS roT roB)
  (frzS 5 (seqS (forS (itF itS (varF 5)) (asgn 6) roSet)
  (frzS 5 (appS 3 (varF 5)))))))
  skipS)
theorem ro_in {sh : PyData} {p : List Nat} {n i : Nat} {x5 x6 : Sl} (h : Pm p n) (hi : i < n) (hn : n ≤ 1000) : ∃ x5' x6', roIn (roEnv sh p (flt p n i) (rnds p n i) (.v (.int i)) x5 x6) = .next (roEnv sh p (flt p n (i + 1)) (rnds p n (i + 1)) (.v (.int i)) x5' x6') := by
  have hin := in_kvT (flt p n i) i
  by_cases ho : opens p n i = true
  · have hnot : i ∉ flt p n i := fun hm => by
      rw [(mem_flt h hi).mp hm] at ho
      cases ho
    have hfl := flt_len h i (Nat.le_of_lt hi)
    have hcl := cyc_len p n i
    obtain ⟨o0, o1, _, _⟩ := ordr_spec h hi
    obtain ⟨x6', e2⟩ := ro_set (sh := sh) (p := p) (found := rnds p n i) (x4 := .v (.int i)) (x5 := .v (.list (nD (cyc p n i)))) (cyc p n i) (flt p n i) x6 (cyc_nd h hi) (fun z hz => flt_apart h hi ho hz) (by omega)
    have hrl : (rnds p n i).length < 100000 := by
      have : (reps p n i).length ≤ i := by
        have := List.length_filter_le (opens p n) (List.range i)
        rw [List.length_range] at this
        exact this
      simp [rnds]
      omega
    refine ⟨.v (.list (nD (cyc p n i))), x6', ?_⟩
    have e3 : flt p n (i + 1) = flt p n i ++ cyc p n i := by rw [flt_succ, if_pos ho]
    have e4 : rnds p n (i + 1) = rnds p n i ++ [.list (nD (cyc p n i))] := by
      unfold rnds
      rw [reps_succ, if_pos ho]
      simp
    rw [e3, e4]
    have e5 : itS (.v (.list (nD (cyc p n i)))) = .ok ((cyc p n i).map fun z : Nat => Rv.v (.int (z : Int))) := by simp [nD]
    have ew := ro_walk (sh := sh) (S := flt p n i) (found := rnds p n i) (x6 := x6) h hi hn
    unfold roIn
    have hd : decide (i ∈ flt p n i) = false := decide_eq_false hnot
    rw [hd] at hin
    rw [ifS_e, show tstF (binF (inR true) (varF 4) (varF 2)) (roEnv sh p (flt p n i) (rnds p n i) (.v (.int i)) x5 x6) = .ok true by unfold roEnv; simp [hin]]
    rw [thenT_ok, if_pos rfl]
    rw [seq_go (ρ' := roEnv sh p (flt p n i) (rnds p n i) (.v (.int i)) (.o (nD [i])) x6) (by unfold roEnv; simp [nD_one])]
    rw [seq_go ew]
    rw [frzS_e]
    have efr : frzE (roEnv sh p (flt p n i) (rnds p n i) (.v (.int i)) (.o (nD (cyc p n i))) x6) 5 = roEnv sh p (flt p n i) (rnds p n i) (.v (.int i)) (.v (.list (nD (cyc p n i)))) x6 := rfl
    rw [efr]
    rw [seq_go (ρ' := roEnv sh p (flt p n i ++ cyc p n i) (rnds p n i) (.v (.int i)) (.v (.list (nD (cyc p n i)))) x6') (by
      rw [forS_e, itF_e, varF_e]
      show thenI _ ((Er.ok (Rv.v (.list (nD (cyc p n i))))).bind itS) _ = _
      rw [bind_ok, e5]
      exact e2)]
    unfold roEnv
    simp [appS, hrl]
  · have ho' : opens p n i = false := by simpa using ho
    have hm : i ∈ flt p n i := (mem_flt h hi).mpr ho'
    have hd : decide (i ∈ flt p n i) = true := decide_eq_true hm
    rw [hd] at hin
    refine ⟨x5, x6, ?_⟩
    have e3 : flt p n (i + 1) = flt p n i := by rw [flt_succ, if_neg ho]
    have e4 : rnds p n (i + 1) = rnds p n i := by
      unfold rnds
      rw [reps_succ, if_neg ho]
    rw [e3, e4]
    unfold roEnv roIn
    simp [hin]
theorem rows_ok {p q : List Nat} {n : Nat} (hp : Pm p n) (hn : n ≤ 1000) : f_rows [.v (sheet p q)] = .ret (.o (rnds p n n)) := by
  have hsz := size_ok (p := p) (q := q) hp.len
  refine fnR_of ?_
  show (seqS (asgS (binF ixR (varF 0) (cF (.int 0))) (asgn 1)) (seqS (asgS (fun _ => .ok (.ok [])) (asgn 2)) (seqS (asgS (lstF aNil) (asgn 3)) (seqS (forS (rg1F (callF f_size (aCons (varF 0) aNil))) (asgn 4) roIn) (retVar 3))))) [.v (sheet p q), .u, .u, .u, .u, .u, .u] = _
  rw [seq_go (ρ' := [.v (sheet p q), .v (.tuple (nD p)), .u, .u, .u, .u, .u]) (by simp [ix_sh0])]
  rw [seq_go (ρ' := [.v (sheet p q), .v (.tuple (nD p)), .k [], .u, .u, .u, .u]) (by simp)]
  rw [seq_go (ρ' := [.v (sheet p q), .v (.tuple (nD p)), .k [], .o [], .u, .u, .u]) (by simp)]
  obtain ⟨ρ', e, x4, x5, x6, eρ⟩ := for_rg (f := callF f_size (aCons (varF 0) aNil)) (s := roIn) (ρ := [.v (sheet p q), .v (.tuple (nD p)), .k [], .o [], .u, .u, .u]) (n := n) 4
    (fun i ρ => ∃ x4 x5 x6, ρ = roEnv (sheet p q) p (flt p n i) (rnds p n i) x4 x5 x6) (by simp [hsz]) (by omega) ⟨.u, .u, .u, rfl⟩ fun i ρ hi ⟨x4, x5, x6, eρ⟩ => by
      subst eρ
      obtain ⟨y5, y6, e⟩ := ro_in (sh := sheet p q) (x5 := x5) (x6 := x6) hp hi hn
      exact ⟨_, e, _, _, _, rfl⟩
  subst eρ
  rw [seq_go e]
  unfold roEnv
  simp

/-- a comprehension with a test -/
theorem lcL_filter {α : Type} {τ : TF} {t : Env → Er Bool} {e : EF} {ρ : Env} (g : α → Rv) (P : α → Bool) (h : α → D) : ∀ (xs : List α), (∀ x ∈ xs, ∃ ρ' a, τ (g x) ρ = .ok ρ' ∧ t ρ' = .ok (P x) ∧ e ρ' = .ok a ∧ a.keep = .ok (h x)) → lcLoop τ t e ρ (xs.map g) = .ok ((xs.filter P).map h)
  | [], _ => rfl
  | x :: xs, hs => by
    obtain ⟨ρ', a, e1, e4, e2, e3⟩ := hs x (List.mem_cons_self ..)
    have ih := lcL_filter g P h xs fun y hy => hs y (List.mem_cons_of_mem _ hy)
    show lcLoop τ t e ρ (g x :: xs.map g) = _
    unfold lcLoop
    rw [e1]
    simp only [bind_ok, e4, noX_okk]
    cases hP : P x with
    | true =>
      rw [if_pos rfl, e2]
      simp only [noX_okk, bind_ok, e3, ih]
      rw [List.filter_cons_of_pos hP]
      rfl
    | false =>
      rw [if_neg Bool.false_ne_true, ih, List.filter_cons_of_neg (by rw [hP]; decide)]

def bstep (p q met : List Nat) (j : Nat) : List Nat := put (put met (ap p (ap met j))) (ap q (ap met j))
def bseq (p q : List Nat) (a : Nat) : Nat → List Nat
  | 0 => [a]
  | j + 1 => if j < (bseq p q a j).length then bstep p q (bseq p q a j) j else bseq p q a j
/-- the squares met from a on -/
def mets (p q : List Nat) (n a : Nat) : List Nat := bseq p q a n
structure BInv (p q : List Nat) (n a : Nat) (met : List Nat) (j : Nat) : Prop where
  nd : met.Nodup
  lt : ∀ x ∈ met, x < n
  z : a ∈ met
  le : j ≤ met.length
  done : ∀ i, i < j → ap p (ap met i) ∈ met ∧ ap q (ap met i) ∈ met
theorem BInv.len {p q met : List Nat} {n a j : Nat} (h : BInv p q n a met j) : met.length ≤ n := by
  have := List.Nodup.length_le_of_subset h.nd (l₂ := List.range n) fun x hx => List.mem_range.mpr (h.lt x hx)
  simpa using this
theorem BInv.step {p q met : List Nat} {n a j : Nat} (hp : Pm p n) (hq : Pm q n) (h : BInv p q n a met j) (hj : j < met.length) : BInv p q n a (bstep p q met j) (j + 1) := by
  have hm : ap met j ∈ met := ap_mem hj
  have hlt := h.lt _ hm
  unfold bstep
  refine ⟨put_nd (put_nd h.nd), fun x hx => ?_, put_sub (put_sub h.z), ?_, fun i hi => ?_⟩
  · rcases put_mem hx with e | e
    · rcases put_mem e with e | e
      · exact h.lt x e
      · rw [e]; exact hp.ap_lt hlt
    · rw [e]; exact hq.ap_lt hlt
  · have h1 := put_len (hv := met) (y := ap p (ap met j))
    have h2 := put_len (hv := put met (ap p (ap met j))) (y := ap q (ap met j))
    omega
  · have hil : i < met.length := by omega
    rw [put_ap (Nat.lt_of_lt_of_le hil put_len), put_ap hil]
    by_cases e : i = j
    · subst e
      exact ⟨put_sub put_self, put_self⟩
    · have := h.done i (by omega)
      exact ⟨put_sub (put_sub this.1), put_sub (put_sub this.2)⟩
theorem bseq_inv {p q : List Nat} {n a : Nat} (hp : Pm p n) (hq : Pm q n) (ha : a < n) : ∀ j, (∀ i, i < j → i < (bseq p q a i).length) → BInv p q n a (bseq p q a j) j
  | 0, _ => ⟨by simp [bseq], by simpa [bseq] using ha, by simp [bseq], by omega, by simp⟩
  | j + 1, h => by
    have ih := bseq_inv hp hq ha j fun i hi => h i (by omega)
    have hj := h j (by omega)
    show BInv p q n a (if j < (bseq p q a j).length then bstep p q (bseq p q a j) j else bseq p q a j) (j + 1)
    rw [if_pos hj]
    exact ih.step hp hq hj
theorem bseq_stop {p q : List Nat} {a j : Nat} (h : (bseq p q a j).length ≤ j) : ∀ k, bseq p q a (j + k) = bseq p q a j
  | 0 => rfl
  | k + 1 => by
    have ih := bseq_stop h k
    show (if j + k < (bseq p q a (j + k)).length then _ else bseq p q a (j + k)) = _
    rw [ih, if_neg (by omega)]
/-- how a loop over what is met ends -/
theorem mets_end {p q : List Nat} {n a j : Nat} (hp : Pm p n) (hq : Pm q n) (ha : a < n) (hi : ∀ i, i < j → i < (bseq p q a i).length) (hl : (bseq p q a j).length ≤ j) : bseq p q a j = mets p q n a ∧ (mets p q n a).length = j := by
  have inv := bseq_inv hp hq ha j hi
  have h1 := inv.len
  have h2 := inv.le
  have e : mets p q n a = bseq p q a j := by
    unfold mets
    rw [show n = j + (n - j) by omega]
    exact bseq_stop hl _
  exact ⟨e.symm, by rw [e]; omega⟩
theorem mets_ex (p q : List Nat) (a : Nat) : ∀ m, (∃ j, j ≤ m ∧ (∀ i, i < j → i < (bseq p q a i).length) ∧ (bseq p q a j).length ≤ j) ∨ (∀ i, i ≤ m → i < (bseq p q a i).length)
  | 0 => .inr fun i hi => by
    have : i = 0 := by omega
    subst this
    simp [bseq]
  | m + 1 => by
    rcases mets_ex p q a m with ⟨j, h1, h2⟩ | h
    · exact .inl ⟨j, by omega, h2⟩
    · by_cases hm : m + 1 < (bseq p q a (m + 1)).length
      · exact .inr fun i hi => by
          by_cases e : i = m + 1
          · rw [e]; exact hm
          · exact h i (by omega)
      · exact .inl ⟨m + 1, by omega, fun i hi => h i (by omega), by omega⟩
theorem mets_inv {p q : List Nat} {n a : Nat} (hp : Pm p n) (hq : Pm q n) (ha : a < n) : BInv p q n a (mets p q n a) (mets p q n a).length := by
  rcases mets_ex p q a n with ⟨j, _, h1, h2⟩ | h
  · obtain ⟨e1, e2⟩ := mets_end hp hq ha h1 h2
    rw [e2, ← e1]
    exact bseq_inv hp hq ha j h1
  · have inv := bseq_inv hp hq ha n fun i hi => h i (by omega)
    have := inv.len
    have := h n (by omega)
    omega
theorem closed_back {p S : List Nat} {n : Nat} (hp : Pm p n) (hn : S.Nodup) (hlt : ∀ x ∈ S, x < n) (hc : ∀ x ∈ S, ap p x ∈ S) {x : Nat} (hx : x < n) (h : ap p x ∈ S) : x ∈ S := by
  have hnd : (S.map (ap p)).Nodup := by
    rw [List.nodup_iff_pairwise_ne, List.pairwise_map]
    exact List.Pairwise.imp_of_mem (fun {a b} ha hb hne e => hne (hp.ap_inj (hlt a ha) (hlt b hb) e)) hn
  have hsub : ∀ y ∈ S.map (ap p), y ∈ S := fun y hy => by
    obtain ⟨z, hz, e⟩ := List.mem_map.mp hy
    exact e ▸ hc z hz
  have hm : ap p x ∈ S.map (ap p) := by
    refine Classical.byContradiction fun hno => ?_
    have := List.Nodup.length_le_of_subset (List.nodup_cons.mpr ⟨hno, hnd⟩) (l₂ := S) fun y hy => by
      rcases List.mem_cons.mp hy with e | e
      · exact e ▸ h
      · exact hsub y e
    simp at this
    omega
  obtain ⟨y, hy, e⟩ := List.mem_map.mp hm
  exact hp.ap_inj (hlt y hy) hx e ▸ hy
theorem closed_full {p q S : List Nat} {n a : Nat} (h : Sh p q n) (hn : S.Nodup) (hlt : ∀ x ∈ S, x < n) (ha : a ∈ S) (hc : ∀ x ∈ S, ap p x ∈ S ∧ ap q x ∈ S) : Pm S n := by
  have h0 : 0 ∈ S := by
    refine Classical.byContradiction fun hno => ?_
    have : ∀ x, Re p q x → x < n ∧ x ∉ S := fun x hx => by
      induction hx with
      | z => exact ⟨h.pos, hno⟩
      | fa _ ih => exact ⟨h.hp.ap_lt ih.1, fun hm => ih.2 (closed_back h.hp hn hlt (fun x hx => (hc x hx).1) ih.1 hm)⟩
      | fb _ ih => exact ⟨h.hq.ap_lt ih.1, fun hm => ih.2 (closed_back h.hq hn hlt (fun x hx => (hc x hx).2) ih.1 hm)⟩
    exact (this a (h.re a (hlt a ha))).2 ha
  have hall : ∀ x, Re p q x → x ∈ S := fun x hx => by
    induction hx with
    | z => exact h0
    | fa _ ih => exact (hc _ ih).1
    | fb _ ih => exact (hc _ ih).2
  have h1 := List.Nodup.length_le_of_subset hn (l₂ := List.range n) fun x hx => List.mem_range.mpr (hlt x hx)
  have h2 := List.Nodup.length_le_of_subset (List.nodup_range (n := n)) (l₂ := S) fun x hx => hall x (h.re x (List.mem_range.mp hx))
  simp at h1 h2
  exact ⟨by omega, hn, hlt⟩
theorem mets_pm {p q : List Nat} {n a : Nat} (h : Sh p q n) (ha : a < n) : Pm (mets p q n a) n := by
  have inv := mets_inv h.hp h.hq ha
  refine closed_full h inv.nd inv.lt inv.z fun x hx => ?_
  obtain ⟨i, hi, e⟩ := List.getElem_of_mem hx
  have := inv.done i hi
  rw [show ap (mets p q n a) i = x from ap_of (by rw [List.getElem?_eq_getElem hi, e])] at this
  exact this

/-! rows of any kind: lists, tuples, one's own or handed in -/
def rI (k : Bool) (z : Int) : Rv := bif k then .b (.int z) else .v (.int z)
def sI (k : Bool) (z : Int) : Sl := bif k then .b (.int z) else .v (.int z)
@[simp] theorem sI_rd (k : Bool) (z : Int) : (sI k z).rd = .ok (rI k z) := by cases k <;> rfl
@[simp] theorem rI_frz (k : Bool) (z : Int) : (rI k z).frz = .ok (rI k z) := by cases k <;> rfl
@[simp] theorem rI_keep (k : Bool) (z : Int) : (rI k z).keep = .ok (.int z) := by cases k <;> rfl
@[simp] theorem rI_dat (k : Bool) (z : Int) : (rI k z).dat = some (.int z) := by cases k <;> rfl
@[simp] theorem rI_sl (k : Bool) (z : Int) : (rI k z).sl = sI k z := by cases k <;> rfl
theorem asgn_rI (k : Bool) (z : Int) (i : Nat) (ρ : Env) : asgn i (rI k z) ρ = .ok (ρ.set i (sI k z)) := by cases k <;> rfl
theorem tup2_rI (k0 k1 : Bool) (x y : Int) : ((tupR [rI k0 x, rI k1 y]).bind itS) = .ok [rI (k0 || k1) x, rI (k0 || k1) y] := by cases k0 <;> cases k1 <;> rfl
theorem in_rI (n : Bool) (k : Bool) (y : Nat) (r : List Nat) : inR n (rI k y) (.w (nD r)) = .ok (.v (.bool (if n then !decide (y ∈ r) else decide (y ∈ r)))) := by
  cases k
  · exact in_w n y r
  · exact (alt_r rfl).trans (alt_l (inSeq_nD n y r rfl rfl))
structure RowA (a : Rv) (k : Bool) (r : List Nat) : Prop where
  ix : ∀ x : Nat, x < r.length → ixR a (.v (.int x)) = .ok (rI k (ap r x : Nat))
  len : lenR a = .ok (.v (.int r.length))
  frz : a.frz = .ok a
  its : itS a = .ok (r.map fun x : Nat => rI k (x : Int))
def RowK (s : Sl) (k : Bool) (r : List Nat) : Prop := ∃ a, s.rd = .ok a ∧ RowA a k r
theorem rowK_vt (r : List Nat) : RowK (.v (.tuple (nD r))) false r := ⟨_, rfl, fun x h => ix_rowT h, by simp, rfl, by simp [nD, rI]⟩
theorem rowK_vl (r : List Nat) : RowK (.v (.list (nD r))) false r := ⟨_, rfl, fun x h => ix_row h, by simp, rfl, by simp [nD, rI]⟩
theorem rowK_bl (r : List Nat) : RowK (.b (.list (nD r))) true r := ⟨_, rfl, fun x h => ix_rowB h, by simp, rfl, by simp [nD, rI]⟩
theorem rowK_bt (r : List Nat) : RowK (.b (.tuple (nD r))) true r := ⟨_, rfl, fun x h => ixR_bt (at_nat.trans (by simp [ap_get h])), by simp, rfl, by simp [nD, rI]⟩
def mgEnv (s0 s1 : Sl) (a : Nat) (met : List Nat) (j : Nat) (x : Sl) : Env := [s0, s1, .v (.int a), .o (nD met), .v (.int j), x]
def mgIn : SF := ifS (tstF (binF (inR true) (varF 5) (varF 3))) (appS 3 (varF 5)) skipS
theorem mg_in (s0 s1 : Sl) (a : Nat) (met : List Nat) (j y : Nat) (k : Bool) (hl : met.length < 100000) : mgIn (mgEnv s0 s1 a met j (sI k y)) = .next (mgEnv s0 s1 a (put met y) j (sI k y)) := by
  have e := in_rI true k y met
  unfold mgIn mgEnv put
  by_cases h : y ∈ met
  · simp [e, h]
  · simp [e, h, appS, hl, nD_app, nD_one]
def mgBody : SF := (seqS (forS (itF itS (tupF (aCons (binF ixR (varF 0) (binF ixR (varF 3) (varF 4))) (aCons (binF ixR (varF 1) (binF ixR (varF 3) (varF 4))) aNil)))) (asgn 5) mgIn)
  (asgS (binF addR (varF 4) (cF (.int 1))) (asgn 4)))
theorem mg_body {s0 s1 : Sl} {k0 k1 : Bool} {p q : List Nat} {n a : Nat} {met : List Nat} {j : Nat} {x : Sl} (h0 : RowK s0 k0 p) (h1 : RowK s1 k1 q) (hp : p.length = n) (hq : q.length = n) (hlt : ap met j < n) (hj : j < met.length) (hl : met.length < 1000) : ∃ x', mgBody (mgEnv s0 s1 a met j x) = .next (mgEnv s0 s1 a (bstep p q met j) (j + 1) x') := by
  obtain ⟨a0, r0, i0⟩ := h0
  obtain ⟨a1, r1, i1⟩ := h1
  have e1 := ix_rowW hj
  have e2 := i0.ix (ap met j) (by omega)
  have e3 := i1.ix (ap met j) (by omega)
  have hl2 : (put met (ap p (ap met j))).length < 100000 := by
    unfold put
    split
    · omega
    · simp; omega
  refine ⟨sI (k0 || k1) (ap q (ap met j) : Nat), ?_⟩
  have e4 : forL (asgn 5) mgIn [rI (k0 || k1) (ap p (ap met j) : Nat), rI (k0 || k1) (ap q (ap met j) : Nat)] (mgEnv s0 s1 a met j x) = .next (mgEnv s0 s1 a (bstep p q met j) j (sI (k0 || k1) (ap q (ap met j) : Nat))) := by
    rw [forL_next (ρ1 := mgEnv s0 s1 a met j (sI (k0 || k1) (ap p (ap met j) : Nat))) (asgn_rI _ _ _ _) (mg_in s0 s1 a met j _ _ (by omega)), forL_next (ρ1 := mgEnv s0 s1 a (put met (ap p (ap met j))) j (sI (k0 || k1) (ap q (ap met j) : Nat))) (asgn_rI _ _ _ _) (mg_in s0 s1 a _ j _ _ hl2)]
    rfl
  have e5 : itF itS (tupF (aCons (binF ixR (varF 0) (binF ixR (varF 3) (varF 4))) (aCons (binF ixR (varF 1) (binF ixR (varF 3) (varF 4))) aNil))) (mgEnv s0 s1 a met j x) = .ok [rI (k0 || k1) (ap p (ap met j) : Nat), rI (k0 || k1) (ap q (ap met j) : Nat)] := by
    rw [← tup2_rI]
    unfold mgEnv
    simp [r0, r1, e1, e2, e3]
  unfold mgBody
  rw [seq_go (by rw [forS_e, e5]; exact e4)]
  unfold mgEnv
  simp
def b_met_any : SF := (seqS (asgS (lstF (aCons (varF 2) aNil)) (asgn 3)) (seqS (asgS (cF (.int 0)) (asgn 4)) (seqS (whileS (tstF (binF ltR (varF 4) (unF lenR (varF 3)))) mgBody) (retVar 3))))
theorem met_any_ok {s0 s1 : Sl} {k0 k1 : Bool} {p q : List Nat} {n a : Nat} (h0 : RowK s0 k0 p) (h1 : RowK s1 k1 q) (hp : Pm p n) (hq : Pm q n) (ha : a < n) (hn : n < 1000) : b_met_any [s0, s1, .v (.int a), .u, .u, .u] = .ret (.o (nD (mets p q n a))) := by
  have hw := whileS_go (t := tstF (binF ltR (varF 4) (unF lenR (varF 3)))) (s := mgBody) (ρ := mgEnv s0 s1 a [a] 0 .u) (fun ρ => ∃ j x, ρ = mgEnv s0 s1 a (bseq p q a j) j x ∧ ∀ i, i < j → i < (bseq p q a i).length) (fun ρ => n - (match slot ρ 4 with | .v (.int j) => j.toNat | _ => 0))
    ⟨0, .u, rfl, by simp⟩ (by show n - 0 < 1000000; omega) ?_
  · obtain ⟨ρ', e, ⟨j, x, eρ, hi⟩, ht⟩ := hw
    subst eρ
    have inv := bseq_inv hp hq ha j hi
    have hl : (bseq p q a j).length ≤ j := by
      unfold mgEnv at ht
      simp at ht
      omega
    obtain ⟨e1, e2⟩ := mets_end hp hq ha hi hl
    unfold b_met_any
    rw [seq_go (ρ' := [s0, s1, .v (.int a), .o (nD [a]), .u, .u]) (by simp [nD_one])]
    rw [seq_go (ρ' := mgEnv s0 s1 a [a] 0 .u) (by unfold mgEnv; simp), seq_go e, e1]
    unfold mgEnv
    simp
  · intro ρ ⟨j, x, eρ, hi⟩
    subst eρ
    have inv := bseq_inv hp hq ha j hi
    have hlen := inv.len
    refine ⟨decide (j < (bseq p q a j).length), by unfold mgEnv; simp, fun hb => ?_⟩
    have hj : j < (bseq p q a j).length := by simpa using hb
    obtain ⟨x', e⟩ := mg_body (a := a) (x := x) h0 h1 hp.len hq.len (inv.lt _ (ap_mem hj)) hj (by omega)
    refine ⟨_, e, ⟨j + 1, x', ?_, fun i h => ?_⟩, ?_⟩
    · have : bseq p q a (j + 1) = bstep p q (bseq p q a j) j := by
        show (if j < (bseq p q a j).length then _ else _) = _
        rw [if_pos hj]
      rw [this] <;> rfl
    · by_cases e : i = j
      · rw [e]; exact hj
      · exact hi i (by omega)
    · show n - ((j + 1 : Nat) : Int).toNat < n - ((j : Nat) : Int).toNat
      omega
/-- what is met hangs together with the first one -/
theorem mets_re {p q : List Nat} {n : Nat} (hp : Pm p n) (hq : Pm q n) (h0 : 0 < n) : ∀ x ∈ mets p q n 0, Re p q x := by
  have : ∀ j, ∀ x ∈ bseq p q 0 j, Re p q x := by
    intro j
    induction j with
    | zero =>
      intro x hx
      rcases List.mem_cons.mp hx with e | e
      · subst e; exact .z
      · cases e
    | succ j ih =>
      intro x hx
      have s1 : bseq p q 0 (j + 1) = if j < (bseq p q 0 j).length then bstep p q (bseq p q 0 j) j else bseq p q 0 j := rfl
      rw [s1] at hx
      by_cases hj : j < (bseq p q 0 j).length
      · rw [if_pos hj] at hx
        have hz := ih _ (ap_mem hj)
        rcases put_mem hx with e | e
        · rcases put_mem e with e | e
          · exact ih x e
          · subst e; exact .fa hz
        · subst e; exact .fb hz
      · rw [if_neg hj] at hx
        exact ih x hx
  exact this n
theorem met_sh {p q : List Nat} {n : Nat} (hp : Pm p n) (hq : Pm q n) (h0 : 0 < n) : Sh ((nsrt (mets p q n 0)).map fun x => Sq.inv (nsrt (mets p q n 0)) (ap p x)) ((nsrt (mets p q n 0)).map fun x => Sq.inv (nsrt (mets p q n 0)) (ap q x)) (nsrt (mets p q n 0)).length ∧ (nsrt (mets p q n 0)).length ≤ n ∧ (∀ x ∈ nsrt (mets p q n 0), x < n ∧ ap p x ∈ nsrt (mets p q n 0) ∧ ap q x ∈ nsrt (mets p q n 0)) := by
  have inv := mets_inv hp hq h0
  have hre := mets_re hp hq h0
  have hpm := nsrt_perm (mets p q n 0)
  generalize mets p q n 0 = hv at *
  have hcl : ∀ x ∈ hv, ap p x ∈ hv ∧ ap q x ∈ hv := fun x hx => by
    obtain ⟨i, hi, e⟩ := List.getElem_of_mem hx
    have := inv.done i hi
    rw [show ap hv i = x from ap_of (by rw [List.getElem?_eq_getElem hi, e])] at this
    exact this
  have hk : ∀ x ∈ nsrt hv, x ∈ hv := fun x hx => hpm.mem_iff.mp hx
  refine ⟨orbit_sh (kept := nsrt hv) hp hq (hpm.nodup_iff.mpr inv.nd) (fun x hx => inv.lt x (hk x hx)) (hpm.mem_iff.mpr inv.z) (nsrt_le hv) (fun x hx => ⟨hpm.mem_iff.mpr (hcl x (hk x hx)).1, hpm.mem_iff.mpr (hcl x (hk x hx)).2⟩) (fun x hx => hre x (hk x hx)), ?_, fun x hx => ⟨inv.lt x (hk x hx), hpm.mem_iff.mpr (hcl x (hk x hx)).1, hpm.mem_iff.mpr (hcl x (hk x hx)).2⟩⟩
  rw [hpm.length_eq]
  exact inv.len

def lD (k : Bool) (r : List Nat) : Sl := bif k then .b (.list (nD r)) else .v (.list (nD r))
theorem any_map (bs : List Bool) : anyA (.o (bs.map .bool)) = .ok (.v (.bool (bs.any id))) := by
  have h : dBools (bs.map PyData.bool) = some bs := by
    induction bs with
    | nil => rfl
    | cons b bs ih =>
      rw [List.map_cons, dBools, ih]
      rfl
  unfold anyA Rv.bools
  simp only [dat_o, h]
def hasM (m s : List Nat) : Bool := s.any fun x => decide (x ∈ m)
theorem has_one_ok (k : Bool) {s m : List Nat} (hl : s.length ≤ 1000) : f_has_one [lD k s, .b (.list (nD m))] = .ret (.v (.bool (hasM m s))) := by
  have hin : ∀ x : Nat, inR false (rI k x) (.b (.list (nD m))) = .ok (.v (.bool (decide (x ∈ m)))) := fun x => by
    refine (alt_r rfl).trans (alt_l ?_)
    exact inSeq_nD false x m (by cases k <;> rfl) rfl
  have hit : ∀ ρ, itF itC (varF 0) (lD k s :: ρ) = .ok (s.map fun x : Nat => rI k x) := fun ρ => by
    cases k <;> simp [lD, nD, rI]
  have e := lcF_map (τ := asgn 2) (vs := [2]) (e := binF (inR false) (varF 2) (varF 1)) (ρ := [lD k s, .b (.list (nD m)), .u]) s (fun x : Nat => rI k x) (fun x => .bool (decide (x ∈ m))) (hit _) (by omega) fun x _ => ⟨_, _, asgn_rI _ _ _ _, by
    simp only [wipe_cons, wipe_nil, set_2, binF_e, varF_e, slot_2, slot_1, sI_rd, rd_b, bind_ok]
    exact hin x, rfl⟩
  have e2 : (s.map fun x => PyData.bool (decide (x ∈ m))) = (s.map fun x => decide (x ∈ m)).map .bool := by simp
  have e3 : ((s.map fun x => decide (x ∈ m)).any id) = hasM m s := by simp [hasM]
  refine fnR_of ?_
  show b_has_one [lD k s, .b (.list (nD m)), .u] = _
  unfold b_has_one
  rw [retS_e, unF_e, e, bind_ok, e2, any_map, e3]
  rfl
/-! band_from -/
structure Bn where
  len : Nat
  wid : Nat
  sh : List Nat
def Bn.D (b : Bn) : PyData := .tuple [.int b.len, .int b.wid, .tuple (nD b.sh)]
def abv (q row : List Nat) (w : Nat) : List Nat := row.map (it q w)
theorem abv_succ {q row : List Nat} (w : Nat) : abv q row (w + 1) = (abv q row w).map (ap q) := by
  unfold abv
  rw [List.map_map]
  rfl
theorem abv_len (q row : List Nat) (w : Nat) : (abv q row w).length = row.length := by simp [abv]
theorem abv_lt {q row : List Nat} {n : Nat} (hq : Pm q n) (hr : ∀ x ∈ row, x < n) (w : Nat) : ∀ x ∈ abv q row w, x < n := fun x hx => by
  obtain ⟨y, hy, rfl⟩ := List.mem_map.mp hx
  exact it_lt hq (hr y hy) w
/-- a border comes again above its row -/
theorem abv_has {q row m : List Nat} {n : Nat} (hq : Pm q n) (hr : ∀ x ∈ row, x < n) (h : hasM m row = true) : ∃ k, 0 < k ∧ k ≤ n ∧ hasM m (abv q row k) = true := by
  obtain ⟨x, hx, hm⟩ := List.any_eq_true.mp h
  obtain ⟨h0, h1, h2, _⟩ := ordr_spec hq (hr x hx)
  refine ⟨_, h0, h1, List.any_eq_true.mpr ⟨x, List.mem_map.mpr ⟨x, hx, h2⟩, hm⟩⟩
def bfC : EF := lcF (itF itC (varF 5)) (asgn 10) [10] yesT (binF ixR (varF 0) (varF 10))
theorem bf_c {q s : List Nat} {n : Nat} {s1 s2 s3 s4 s6 s7 s8 s9 s11 : Sl} (hq : Pm q n) (hs : ∀ x ∈ s, x < n) (hl : s.length ≤ 1000) : bfC [.v (.tuple (nD q)), s1, s2, s3, s4, .v (.list (nD s)), s6, s7, s8, s9, .u, s11] = .ok (.o (nD (s.map (ap q)))) := by
  unfold bfC
  rw [lcF_map s (fun x : Nat => Rv.v (.int (x : Int))) (fun x : Nat => .int (ap q x : Nat)) (by simp [nD]) (by omega) fun x hx => ⟨_, .v (.int (ap q x : Nat)), rfl, by
    have := ix_rowT (a := q) (x := x) (by rw [hq.len]; exact hs x hx)
    simp [this], rfl⟩]
  simp [nD]
def bfW : SF := (seqS (asgS (binF addR (varF 4) (cF (.int 1))) (asgn 4))
  (frzS 6 (seqS (asgS (varF 6) (asgn 5)) (asgS bfC (asgn 6)))))
def bfT : Env → Er Bool := notT (tstF (callF f_has_one (aCons (varF 6) (aCons (varF 2) aNil))))
def bfEnv (q row m : List Nat) (w : Nat) (x5 : Sl) : Env := [.v (.tuple (nD q)), .v (.list (nD row)), .b (.list (nD m)), .v (.int row.length), .v (.int w), x5, .o (nD (abv q row w)), .u, .u, .u, .u, .u]
theorem bf_walk {q row m : List Nat} {n : Nat} (hq : Pm q n) (hr : ∀ x ∈ row, x < n) (h : hasM m row = true) (hn : n ≤ 1000) (hl : row.length ≤ 1000) (x5 : Sl) : ∃ w x5', 0 < w ∧ w ≤ n ∧ whileS bfT bfW (bfEnv q row m 1 x5) = .next (bfEnv q row m w x5') ∧ hasM m (abv q row w) = true ∧ ∀ j, 0 < j → j < w → hasM m (abv q row j) = false := by
  obtain ⟨K, hK0, hKn, hK⟩ := abv_has hq hr h
  have ht : ∀ w x5, bfT (bfEnv q row m w x5) = .ok (!hasM m (abv q row w)) := fun w x5 => by
    have := has_one_ok true (s := abv q row w) (m := m) (by rw [abv_len]; exact hl)
    have z : lD true (abv q row w) = .b (.list (nD (abv q row w))) := rfl
    rw [z] at this
    unfold bfT bfEnv
    simp [this]
  have hw := whileS_go (t := bfT) (s := bfW) (ρ := bfEnv q row m 1 x5) (fun ρ => ∃ w x5, 0 < w ∧ w ≤ K ∧ ρ = bfEnv q row m w x5 ∧ ∀ j, 0 < j → j < w → hasM m (abv q row j) = false) (fun ρ => K - (match slot ρ 4 with | .v (.int w) => w.toNat | _ => 0))
    ⟨1, x5, by omega, hK0, rfl, fun j a b => by omega⟩ (by show K - _ < 1000000; omega) ?_
  · obtain ⟨ρ', e, ⟨w, x5', w0, w1, eρ, hj⟩, hf⟩ := hw
    subst eρ
    rw [ht] at hf
    refine ⟨w, x5', w0, by omega, e, ?_, hj⟩
    have : (!hasM m (abv q row w)) = false := Er.ok.inj hf
    simpa using this
  · intro ρ ⟨w, x5, w0, w1, eρ, hj⟩
    subst eρ
    refine ⟨_, ht w x5, fun hb => ?_⟩
    have hb' : hasM m (abv q row w) = false := by simpa using hb
    have hlt : w < K := by
      refine Nat.lt_of_le_of_ne w1 fun e => ?_
      rw [e, hK] at hb'
      cases hb'
    refine ⟨bfEnv q row m (w + 1) (.v (.list (nD (abv q row w)))), ?_, ⟨w + 1, _, by omega, by omega, rfl, fun j a b => ?_⟩, ?_⟩
    · unfold bfW
      rw [seq_go (ρ' := [.v (.tuple (nD q)), .v (.list (nD row)), .b (.list (nD m)), .v (.int row.length), .v (.int ((w + 1 : Nat) : Int)), x5, .o (nD (abv q row w)), .u, .u, .u, .u, .u]) (by unfold bfEnv; simp)]
      rw [frzS_e]
      simp only [frzE_e, slot_6, set_6, sfrz_o]
      rw [seq_go (ρ' := [.v (.tuple (nD q)), .v (.list (nD row)), .b (.list (nD m)), .v (.int row.length), .v (.int ((w + 1 : Nat) : Int)), .v (.list (nD (abv q row w))), .v (.list (nD (abv q row w))), .u, .u, .u, .u, .u]) (by simp)]
      rw [asgS_e, bf_c hq (abv_lt hq hr w) (by rw [abv_len]; exact hl), ← abv_succ]
      rfl
    · by_cases hjw : j = w
      · rw [hjw]
        exact hb'
      · exact hj j a (by omega)
    · show K - ((w + 1 : Nat) : Int).toNat < K - ((w : Nat) : Int).toNat
      omega
def strts (row m : List Nat) : List Nat := (List.range row.length).filter fun k => decide (ap row k ∈ m)
def hits (row m ab : List Nat) (t : Nat) : Bool := hasM m ((strts row m).map fun k => ap ab ((k + t) % row.length))
def shfs (row m ab : List Nat) : List Nat := (List.range row.length).filter (hits row m ab)
def bfS : SF := (ifS (tstF (callF f_has_one (aCons (lcF (itF itC (varF 7)) (asgn 11) [11] yesT (binF ixR (varF 6) (binF (flat2 (int2 imod)) (binF addR (varF 11) (varF 9)) (varF 3)))) (aCons (varF 2) aNil)))) (appS 8 (varF 9))
  skipS)
def bfE2 (q row m : List Nat) (w : Nat) (x5 : Sl) (sh : List Nat) (x9 : Sl) : Env := [.v (.tuple (nD q)), .v (.list (nD row)), .b (.list (nD m)), .v (.int row.length), .v (.int w), x5, .o (nD (abv q row w)), .o (nD (strts row m)), .o (nD sh), x9, .u, .u]
theorem bf_s {q row m : List Nat} {w t : Nat} {x5 : Sl} {sh : List Nat} (hl : row.length ≤ 1000) (hsl : sh.length < 100000) (ht : t < row.length) : bfS (bfE2 q row m w x5 sh (.v (.int t))) = .next (bfE2 q row m w x5 (if hits row m (abv q row w) t = true then sh ++ [t] else sh) (.v (.int t))) := by
  have hst : (strts row m).length ≤ 1000 := by
    have := List.length_filter_le (fun k => decide (ap row k ∈ m)) (List.range row.length)
    rw [List.length_range] at this
    unfold strts
    omega
  have e1 : lcF (itF itC (varF 7)) (asgn 11) [11] yesT (binF ixR (varF 6) (binF (flat2 (int2 imod)) (binF addR (varF 11) (varF 9)) (varF 3))) (bfE2 q row m w x5 sh (.v (.int t))) = .ok (.o (nD ((strts row m).map fun k => ap (abv q row w) ((k + t) % row.length)))) := by
    unfold bfE2
    rw [lcF_map (strts row m) (fun x : Nat => Rv.v (.int (x : Int))) (fun k : Nat => .int (ap (abv q row w) ((k + t) % row.length) : Nat)) (by simp [nD]) (by omega) fun k hk => ⟨_, .v (.int (ap (abv q row w) ((k + t) % row.length) : Nat)), rfl, by
      have m1 := mod_nat (k + t) row.length (by omega)
      have i1 := ix_rowW (a := abv q row w) (x := (k + t) % row.length) (by rw [abv_len]; exact Nat.mod_lt _ (by omega))
      rw [Int.natCast_add] at m1
      generalize (k + t) % row.length = j at *
      simp [m1, i1], rfl⟩]
    simp [nD]
  have e2 := has_one_ok false (s := (strts row m).map fun k => ap (abv q row w) ((k + t) % row.length)) (m := m) (by rw [List.length_map]; exact hst)
  have z : ∀ s, lD false s = .v (.list (nD s)) := fun _ => rfl
  rw [z] at e2
  have e3 : tstF (callF f_has_one (aCons (lcF (itF itC (varF 7)) (asgn 11) [11] yesT (binF ixR (varF 6) (binF (flat2 (int2 imod)) (binF addR (varF 11) (varF 9)) (varF 3)))) (aCons (varF 2) aNil))) (bfE2 q row m w x5 sh (.v (.int t))) = .ok (hits row m (abv q row w) t) := by
    have s2 : slot (bfE2 q row m w x5 sh (.v (.int t))) 2 = .b (.list (nD m)) := rfl
    simp only [tstF_e, callF_e, aCons_e, e1, bind_ok, frz_o, varF_e, s2, rd_b, frz_b, aNil_e, List.map_cons, List.map_nil, sl_v, sl_b, e2, rv_v]
    rfl
  unfold bfS
  rw [ifS_e, e3, thenT_ok]
  cases hits row m (abv q row w) t with
  | true =>
    simp only [if_true]
    rw [appS_e (xs := nD sh) rfl (by simp [nD]; omega)]
    unfold bfE2
    simp [nD_app, nD_one]
  | false => simp
theorem band_from_ok {q row m : List Nat} {n : Nat} (hq : Pm q n) (hr : ∀ x ∈ row, x < n) (h : hasM m row = true) (hn : n ≤ 1000) (hl : row.length ≤ 1000) : ∃ w, 0 < w ∧ w ≤ n ∧ hasM m (abv q row w) = true ∧ (∀ j, 0 < j → j < w → hasM m (abv q row j) = false) ∧
    f_band_from_2 [.v (.tuple (nD q)), .v (.list (nD row)), .b (.list (nD m))] = .ret (.v (Bn.D ⟨row.length, w, shfs row m (abv q row w)⟩)) := by
  obtain ⟨w, x5, w0, w1, e1, hw, hj⟩ := bf_walk hq hr h hn hl (.v (.list (nD row)))
  refine ⟨w, w0, w1, hw, hj, fnR_of ?_⟩
  show (seqS _ (seqS _ (seqS _ (seqS (asgS bfC (asgn 6)) (seqS (whileS bfT bfW) (seqS (asgS (lcF (rg1F (varF 3)) (asgn 11) [11] (tstF (binF (inR false) (binF ixR (varF 1) (varF 11)) (varF 2))) (varF 11)) (asgn 7)) (seqS _ (seqS (forS (rg1F (varF 3)) (asgn 9) bfS) _)))))))) [.v (.tuple (nD q)), .v (.list (nD row)), .b (.list (nD m)), .u, .u, .u, .u, .u, .u, .u, .u, .u] = _
  rw [seq_go (ρ' := [.v (.tuple (nD q)), .v (.list (nD row)), .b (.list (nD m)), .v (.int row.length), .u, .u, .u, .u, .u, .u, .u, .u]) (by simp [nD])]
  rw [seq_go (ρ' := [.v (.tuple (nD q)), .v (.list (nD row)), .b (.list (nD m)), .v (.int row.length), .v (.int 1), .u, .u, .u, .u, .u, .u, .u]) (by simp)]
  rw [seq_go (ρ' := [.v (.tuple (nD q)), .v (.list (nD row)), .b (.list (nD m)), .v (.int row.length), .v (.int 1), .v (.list (nD row)), .u, .u, .u, .u, .u, .u]) (by simp)]
  rw [seq_go (ρ' := bfEnv q row m 1 (.v (.list (nD row)))) (by
    rw [asgS_e, bf_c hq hr hl]
    rfl)]
  rw [seq_go e1]
  have hst : lcF (rg1F (varF 3)) (asgn 11) [11] (tstF (binF (inR false) (binF ixR (varF 1) (varF 11)) (varF 2))) (varF 11) (bfEnv q row m w x5) = .ok (.o (nD (strts row m))) := by
    have hL := lcL_filter (τ := asgn 11) (t := tstF (binF (inR false) (binF ixR (varF 1) (varF 11)) (varF 2))) (e := varF 11) (ρ := bfEnv q row m w x5) (fun k : Nat => Rv.v (.int (k : Int))) (fun k => decide (ap row k ∈ m)) (fun k : Nat => .int (k : Int)) (List.range row.length) fun k hk => ⟨_, _, rfl, by
      have hk := List.mem_range.mp hk
      have i1 := ix_row (a := row) (x := k) hk
      have hin : inR false (.v (.int (ap row k : Nat))) (.b (.list (nD m))) = .ok (.v (.bool (decide (ap row k ∈ m)))) := (alt_r rfl).trans (alt_l (inSeq_nD false (ap row k) m rfl rfl))
      unfold bfEnv
      simp [i1, hin], rfl, rfl⟩
    unfold lcF
    have hrg : rg1F (varF 3) (bfEnv q row m w x5) = .ok (rgV row.length) := rg1_nat rfl (by omega)
    rw [hrg]
    simp only [bind_ok]
    have hlen : (rgV row.length).length ≤ 100000 := by simp [rgV]; omega
    rw [if_pos hlen]
    have hwp : wipeE (bfEnv q row m w x5) [11] = bfEnv q row m w x5 := rfl
    rw [hwp]
    unfold rgV
    rw [hL]
    rfl
  rw [seq_go (ρ' := [.v (.tuple (nD q)), .v (.list (nD row)), .b (.list (nD m)), .v (.int row.length), .v (.int w), x5, .o (nD (abv q row w)), .o (nD (strts row m)), .u, .u, .u, .u]) (by
    rw [asgS_e, hst]
    rfl)]
  rw [seq_go (ρ' := bfE2 q row m w x5 [] .u) (by unfold bfE2; simp [nD])]
  obtain ⟨ρ', e, x9, eρ⟩ := for_rg (f := varF 3) (s := bfS) (ρ := bfE2 q row m w x5 [] .u) (n := row.length) 9
    (fun i ρ => ∃ x9, ρ = bfE2 q row m w x5 ((List.range i).filter (hits row m (abv q row w))) x9) rfl (by omega) ⟨.u, rfl⟩ fun i ρ hi ⟨x9, eρ⟩ => by
      subst eρ
      have hf := List.length_filter_le (hits row m (abv q row w)) (List.range i)
      rw [List.length_range] at hf
      have := bf_s (q := q) (m := m) (w := w) (x5 := x5) (sh := (List.range i).filter (hits row m (abv q row w))) hl (by omega) hi
      refine ⟨_, this, .v (.int i), ?_⟩
      congr 1
      rw [List.range_succ, List.filter_append]
      by_cases hh : hits row m (abv q row w) i = true
      · rw [if_pos hh, List.filter_cons_of_pos hh, List.filter_nil]
      · rw [if_neg hh, List.filter_cons_of_neg hh, List.filter_nil, List.append_nil]
  subst eρ
  rw [seq_go e]
  unfold bfE2 Bn.D shfs
  simp

def wdt (q row m : List Nat) (n : Nat) : Nat := ((List.range n).find? fun k => hasM m (abv q row (k + 1))).getD 0 + 1
def bandOf (q row m : List Nat) (n : Nat) : Bn := ⟨row.length, wdt q row m n, shfs row m (abv q row (wdt q row m n))⟩
theorem wdt_of {q row m : List Nat} {n w : Nat} (h0 : 0 < w) (h1 : w ≤ n) (hw : hasM m (abv q row w) = true) (hj : ∀ j, 0 < j → j < w → hasM m (abv q row j) = false) : wdt q row m n = w := by
  have e : (List.range n).find? (fun k => hasM m (abv q row (k + 1))) = some (w - 1) := List.find?_range_eq_some.mpr ⟨by rw [show w - 1 + 1 = w by omega]; exact hw, List.mem_range.mpr (by omega), fun j hj' => by
    have := hj (j + 1) (by omega) (by omega)
    simpa using this⟩
  unfold wdt
  rw [e]
  show w - 1 + 1 = w
  omega
theorem band_of_ok {q row m : List Nat} {n : Nat} (hq : Pm q n) (hr : ∀ x ∈ row, x < n) (h : hasM m row = true) (hn : n ≤ 1000) (hl : row.length ≤ 1000) : f_band_from_2 [.v (.tuple (nD q)), .v (.list (nD row)), .b (.list (nD m))] = .ret (.v (bandOf q row m n).D) := by
  obtain ⟨w, h0, h1, hw, hj, e⟩ := band_from_ok hq hr h hn hl
  rw [e, bandOf, wdt_of h0 h1 hw hj]
def bandL (p q : List Nat) (n : Nat) : List Bn := (((reps p n n).map (cyc p n)).filter (hasM (marksL p q n))).map fun row => bandOf q row (marksL p q n) n
def baIn : SF := (ifS (tstF (callF f_has_one (aCons (varF 3) (aCons (varF 1) aNil)))) (appS 2 (callF f_band_from_2 (aCons (binF ixR (varF 0) (cF (.int 1))) (aCons (varF 3) (aCons (varF 1) aNil)))))
  skipS)
theorem ba_loop {p q m : List Nat} {n : Nat} (hq : Pm q n) (hn : n ≤ 1000) : ∀ (cs : List (List Nat)) (acc : List Bn) (x : Sl), (∀ c ∈ cs, (∀ y ∈ c, y < n) ∧ c.length ≤ 1000) → acc.length + cs.length < 100000 →
    ∃ x', forL (asgn 3) baIn (cs.map fun c => Rv.v (.list (nD c))) [.v (sheet p q), .o (nD m), .o (acc.map Bn.D), x] = .next [.v (sheet p q), .o (nD m), .o ((acc ++ (cs.filter (hasM m)).map fun row => bandOf q row m n).map Bn.D), x']
  | [], acc, x, _, _ => ⟨x, by simp⟩
  | c :: cs, acc, x, hc, hl => by
    rw [List.length_cons] at hl
    have h1 := has_one_ok false (s := c) (m := m) (hc c List.mem_cons_self).2
    have z : ∀ s, lD false s = .v (.list (nD s)) := fun _ => rfl
    rw [z] at h1
    by_cases h : hasM m c = true
    · have h2 := band_of_ok hq (hc c List.mem_cons_self).1 h hn (hc c List.mem_cons_self).2
      obtain ⟨x', e⟩ := ba_loop (p := p) hq hn cs (acc ++ [bandOf q c m n]) (.v (.list (nD c))) (fun d hd => hc d (List.mem_cons_of_mem _ hd)) (by rw [List.length_append, List.length_singleton]; omega)
      refine ⟨x', ?_⟩
      rw [h] at h1
      rw [List.map_cons, forL_next (ρ2 := [.v (sheet p q), .o (nD m), .o ((acc ++ [bandOf q c m n]).map Bn.D), .v (.list (nD c))]) rfl (by
        show baIn [.v (sheet p q), .o (nD m), .o (acc.map Bn.D), .v (.list (nD c))] = _
        unfold baIn
        rw [ifS_e]
        have t : tstF (callF f_has_one (aCons (varF 3) (aCons (varF 1) aNil))) [.v (sheet p q), .o (nD m), .o (acc.map Bn.D), .v (.list (nD c))] = .ok true := by simp [h1]
        rw [t, thenT_ok, if_pos rfl, appS_e (xs := acc.map Bn.D) rfl (by rw [List.length_map]; omega)]
        simp [ix_sh1, h2])]
      rw [e, List.filter_cons_of_pos h, List.map_cons, List.append_assoc]
      rfl
    · have h' : hasM m c = false := by simpa using h
      obtain ⟨x', e⟩ := ba_loop (p := p) hq hn cs acc (.v (.list (nD c))) (fun d hd => hc d (List.mem_cons_of_mem _ hd)) (by omega)
      refine ⟨x', ?_⟩
      rw [h'] at h1
      rw [List.map_cons, forL_next (ρ2 := [.v (sheet p q), .o (nD m), .o (acc.map Bn.D), .v (.list (nD c))]) rfl (by
        show baIn [.v (sheet p q), .o (nD m), .o (acc.map Bn.D), .v (.list (nD c))] = _
        unfold baIn
        simp [h1])]
      rw [e, List.filter_cons_of_neg (by rw [h']; decide)]
/-! sorted -/
theorem alike_nDs (xs ys : List Nat) : PySem.W.alikeAll (nD xs) (nD ys) = true := by
  rw [nD_map, nD_map]
  exact PySem.W.alike_ints _ _
theorem sort_tups {a : Rv} {ds : List PyData} (ha : a.listD = some ds) (hi : a.intsD = dInts ds) (h1 : ∀ x ∈ ds, ∃ y r, x = .tuple (y :: r)) (h2 : ∀ x ∈ ds, ∀ y ∈ ds, PySem.W.alike x y = true) (h3 : PyData.depthAll ds ≤ 60) : sortA a = .ok (.o (sortD ds)) := by
  cases ds with
  | nil =>
    have : sortR a = .ok (.o []) := by
      unfold sortR
      rw [hi]
      simp [dInts, srt]
    unfold sortA alt1
    rw [this]
    simp [sortD]
  | cons x ds =>
    have hx : sortR a = .bad := by
      obtain ⟨y, r, e⟩ := h1 x List.mem_cons_self
      unfold sortR
      rw [hi, e]
      rfl
    have hal : alikeB (x :: ds) = true := by
      unfold alikeB
      rw [List.all_eq_true]
      intro u hu
      rw [List.all_eq_true]
      intro v hv
      obtain ⟨y, r, e⟩ := h1 u hu
      rw [h2 u hu v hv, e]
      rfl
    have htp : tupsB (x :: ds) = true := by
      unfold tupsB
      rw [List.all_eq_true]
      intro u hu
      obtain ⟨y, r, e⟩ := h1 u hu
      rw [e]
    unfold sortA alt1
    rw [hx]
    show sortDR a = _
    unfold sortDR
    rw [ha]
    simp only
    rw [if_pos ⟨hal, h3, by rw [htp, Bool.or_true]⟩]
theorem depth_td {ds : List PyData} {k : Nat} (h : ∀ x ∈ ds, td k x = true) (hk : k ≤ 59) : PyData.depthAll ds ≤ 60 := by
  have h1 := (td_lay (k + 1) (.list ds) (by rw [td_lst]; exact List.all_eq_true.mpr h)).2
  rw [PyData.depth] at h1
  omega
theorem Bn.td (b : Bn) : Sq.td 2 b.D = true := by simp [Bn.D, Sq.td]
def Bn.P (b : Bn) : PyData := .tuple [.int b.len, .int b.wid]
def bnLe (a b : Bn) : Bool := PySem.W.dataLe false (fun d : PyData => d) a.D b.D
def prLe (a b : Bn) : Bool := PySem.W.dataLe false (fun d : PyData => d) a.P b.P
theorem sortD_map {α : Type} (f : α → PyData) (L : List α) : sortD (L.map f) = (L.mergeSort fun a b => PySem.W.dataLe false (fun d : PyData => d) (f a) (f b)).map f :=
  (List.map_mergeSort (f := f) (r := fun a b => PySem.W.dataLe false (fun d : PyData => d) (f a) (f b)) (s := PySem.W.dataLe false fun d : PyData => d) (l := L) fun a _ b _ => rfl).symm
theorem sort_bn {a : Rv} {L : List Bn} (ha : a.listD = some (L.map Bn.D)) (hi : a.intsD = dInts (L.map Bn.D)) : sortA a = .ok (.o ((L.mergeSort bnLe).map Bn.D)) := by
  rw [sort_tups ha hi (fun x hx => by obtain ⟨b, _, rfl⟩ := List.mem_map.mp hx; exact ⟨_, _, rfl⟩) (fun x hx y hy => by
    obtain ⟨b, _, rfl⟩ := List.mem_map.mp hx
    obtain ⟨c, _, rfl⟩ := List.mem_map.mp hy
    simp [Bn.D, PySem.W.alike, PySem.W.alikeAll, alike_nDs]) (depth_td (k := 2) (fun x hx => by obtain ⟨b, _, rfl⟩ := List.mem_map.mp hx; exact b.td) (by decide)), sortD_map]
  rfl
theorem sort_pr {a : Rv} {L : List Bn} (ha : a.listD = some (L.map Bn.P)) (hi : a.intsD = dInts (L.map Bn.P)) : sortA a = .ok (.o ((L.mergeSort prLe).map Bn.P)) := by
  rw [sort_tups ha hi (fun x hx => by obtain ⟨b, _, rfl⟩ := List.mem_map.mp hx; exact ⟨_, _, rfl⟩) (fun x hx y hy => by
    obtain ⟨b, _, rfl⟩ := List.mem_map.mp hx
    obtain ⟨c, _, rfl⟩ := List.mem_map.mp hy
    simp [Bn.P, PySem.W.alike, PySem.W.alikeAll]) (depth_td (k := 1) (fun x hx => by obtain ⟨b, _, rfl⟩ := List.mem_map.mp hx; simp [Bn.P, Sq.td]) (by decide)), sortD_map]
  rfl
def bandsS (p q : List Nat) (n : Nat) : List Bn := (bandL p q n).mergeSort bnLe
theorem bands_ok {p q : List Nat} {n : Nat} (hp : Pm p n) (hq : Pm q n) (hn : n ≤ 1000) : f_bands_2 [.v (sheet p q)] = .ret (.o ((bandsS p q n).map Bn.D)) := by
  have e1 := borders_ok hp hq hn
  have e2 := rows_ok (q := q) hp hn
  have hrl : (reps p n n).length ≤ n := by
    have := List.length_filter_le (opens p n) (List.range n)
    rw [List.length_range] at this
    exact this
  obtain ⟨x', e⟩ := ba_loop (p := p) (m := marksL p q n) hq hn ((reps p n n).map (cyc p n)) [] .u (fun c hc => by
    obtain ⟨y, hy, rfl⟩ := List.mem_map.mp hc
    have hyn := List.mem_range.mp (List.mem_filter.mp hy).1
    refine ⟨fun z hz => cyc_lt hp hyn hz, ?_⟩
    rw [cyc_len]
    have := (ordr_spec hp hyn).2.1
    omega) (by simp; omega)
  rw [List.nil_append] at e
  have e3 : itF itS (callF f_rows (aCons (varF 0) aNil)) [.v (sheet p q), .o (nD (marksL p q n)), .o [], .u] = .ok (((reps p n n).map (cyc p n)).map fun c => Rv.v (.list (nD c))) := by
    simp [e2, rnds]
  refine fnR_of ?_
  show (seqS _ (seqS _ (seqS (forS (itF itS (callF f_rows (aCons (varF 0) aNil))) (asgn 3) baIn) _))) [.v (sheet p q), .u, .u, .u] = _
  rw [seq_go (ρ' := [.v (sheet p q), .o (nD (marksL p q n)), .u, .u]) (by simp [e1])]
  rw [seq_go (ρ' := [.v (sheet p q), .o (nD (marksL p q n)), .o [], .u]) (by simp)]
  rw [seq_go (by rw [forS_e, e3]; exact e)]
  have hs := sort_bn (a := .v (.list ((bandL p q n).map Bn.D))) (L := bandL p q n) rfl rfl
  have hb : ((((reps p n n).map (cyc p n)).filter (hasM (marksL p q n))).map fun row => bandOf q row (marksL p q n) n) = bandL p q n := rfl
  rw [hb]
  rw [frzS_e]
  simp only [frzE_e, slot_2, set_2, sfrz_o, retS_e, unF_e, varF_e, rd_v, bind_ok, hs]
  rfl
/-- what bands_along tells of a sheet that is moved already -/
def alongS (p q : List Nat) (n : Nat) : List Bn := (bandsS p q n).mergeSort prLe
theorem along_tail {p q : List Nat} {n : Nat} (hp : Pm p n) (hq : Pm q n) (hn : n ≤ 1000) (s0 s1 s2 : Sl) : (retS (unF sortA (lcF (itF itC (callF f_bands_2 (aCons (varF 3) aNil))) (asgn 4) [4] yesT (tupF (aCons (binF ixR (varF 4) (cF (.int 0))) (aCons (binF ixR (varF 4) (cF (.int 1))) aNil)))))) [s0, s1, s2, .v (sheet p q), .u] = .ret (.o ((alongS p q n).map Bn.P)) := by
  have e1 := bands_ok hp hq hn
  have hl : (bandsS p q n).length ≤ 1000 := by
    unfold bandsS
    rw [(List.mergeSort_perm _ _).length_eq]
    unfold bandL
    rw [List.length_map]
    have h1 := List.length_filter_le (hasM (marksL p q n)) ((reps p n n).map (cyc p n))
    rw [List.length_map] at h1
    have h2 : (reps p n n).length ≤ n := by
      have := List.length_filter_le (opens p n) (List.range n)
      rw [List.length_range] at this
      exact this
    omega
  have e2 : lcF (itF itC (callF f_bands_2 (aCons (varF 3) aNil))) (asgn 4) [4] yesT (tupF (aCons (binF ixR (varF 4) (cF (.int 0))) (aCons (binF ixR (varF 4) (cF (.int 1))) aNil))) [s0, s1, s2, .v (sheet p q), .u] = .ok (.o ((bandsS p q n).map Bn.P)) :=
    lcF_map (bandsS p q n) (fun b => Rv.v b.D) Bn.P (by simp [e1]) (by omega) fun b hb => ⟨_, .v b.P, rfl, by
      have i0 : ixR (.v b.D) (.v (.int 0)) = .ok (.v (.int b.len)) := ixR_vt rfl
      have i1 : ixR (.v b.D) (.v (.int 1)) = .ok (.v (.int b.wid)) := ixR_vt rfl
      simp [i0, i1]
      rfl, rfl⟩
  have hs := sort_pr (a := .o ((bandsS p q n).map Bn.P)) (L := bandsS p q n) rfl rfl
  rw [retS_e, unF_e, e2, bind_ok, hs]
  rfl

/-! the order of bands -/
def Bn.key (b : Bn) : List Int := (b.len : Int) :: (b.wid : Int) :: b.sh.map fun n : Nat => (n : Int)
theorem Bn.key_inj {a b : Bn} (h : a.key = b.key) : a = b := by
  cases a
  cases b
  unfold Bn.key at h
  injection h with h1 h2
  injection h2 with h2 h3
  have h3 := (List.map_inj_right (fun (x y : Nat) (e : (x : Int) = (y : Int)) => by omega)).mp h3
  simp only at h1 h2 h3
  congr 1
  · omega
  · omega
theorem bn_lt (a b : Bn) : PySem.W.dataLt a.D b.D = decide (a.key < b.key) := by
  have e3 : PySem.W.dataLt (.tuple (nD a.sh)) (.tuple (nD b.sh)) = decide ((a.sh.map fun n : Nat => (n : Int)) < b.sh.map fun n : Nat => (n : Int)) := by
    rw [PySem.W.dataLt_tuple]
    have : ∀ r : List Nat, nD r = (r.map fun n : Nat => (n : Int)).map PyData.int := fun r => by simp [nD]
    rw [this, this]
    exact PySem.W.dataLt_ints _ _
  have e0 := PySem.W.dataLt_ints [] []
  unfold PySem.W.rowLt at e0
  rw [show decide (([] : List Int) < []) = false from by decide] at e0
  simp only [List.map_nil] at e0
  unfold Bn.D
  rw [PySem.W.dataLt_tuple, PySem.W.dataLt_cons (by simp [PySem.W.alike]), PySem.W.dataLt_cons (by simp [PySem.W.alike]), PySem.W.dataLt_cons (by simp [PySem.W.alike, alike_nDs]), PySem.W.dataLt_int, PySem.W.dataLt_int, e3, e0]
  unfold Bn.key
  have hv : PyData.eqv (.tuple (nD a.sh)) (.tuple (nD b.sh)) = true → a.sh = b.sh := fun h => by
    have : deq false (.tuple (nD a.sh)) (.tuple (nD b.sh)) = .ok (.bool (PyData.eqv (.tuple (nD a.sh)) (.tuple (nD b.sh)))) := eq_td 2 (by simp) (by simp)
    have h2 : deq false (.tuple (nD a.sh)) (.tuple (nD b.sh)) = .ok (.bool (decide (a.sh = b.sh))) := eq_dec 2 (by simp) (by simp) ⟨fun e => by injection e with e; exact nD_inj e, fun e => by rw [e]⟩
    rw [this, h] at h2
    injection h2 with h2
    injection h2 with h2
    exact of_decide_eq_true h2.symm
  generalize PyData.eqv (.tuple (nD a.sh)) (.tuple (nD b.sh)) = E at *
  simp only [PyData.eqv, beq_iff_eq]
  by_cases h1 : (a.len : Int) = b.len
  · by_cases h2 : (a.wid : Int) = b.wid
    · rw [if_pos h1, if_pos h2]
      by_cases h3 : E = true
      · rw [if_pos h3]
        have := hv h3
        simp [h1, h2, this, List.cons_lt_cons_iff, List.lt_irrefl]
      · rw [if_neg h3]
        simp [h1, h2, List.cons_lt_cons_iff]
    · rw [if_pos h1, if_neg h2]
      simp [h1, h2, List.cons_lt_cons_iff]
  · rw [if_neg h1]
    simp [h1, List.cons_lt_cons_iff]
theorem bnLe_eq (a b : Bn) : bnLe a b = decide (a.key ≤ b.key) := by
  show (!PySem.W.dataLt b.D a.D) = _
  rw [bn_lt]
  by_cases h : b.key < a.key
  · have h' : ¬ a.key ≤ b.key := fun r => List.not_lt.mpr r h
    simp [h, h']
  · have h' : a.key ≤ b.key := List.not_lt.mp h
    simp [h, h']
theorem bnLe_trans (a b c : Bn) (h1 : bnLe a b = true) (h2 : bnLe b c = true) : bnLe a c = true := by
  rw [bnLe_eq] at *
  exact decide_eq_true (List.le_trans (of_decide_eq_true h1) (of_decide_eq_true h2))
theorem bnLe_total (a b : Bn) : (bnLe a b || bnLe b a) = true := by
  rw [bnLe_eq, bnLe_eq]
  rcases List.le_total a.key b.key with h | h <;> simp [h]
theorem bnLe_anti {a b : Bn} (h1 : bnLe a b = true) (h2 : bnLe b a = true) : a = b := by
  rw [bnLe_eq] at *
  exact Bn.key_inj (List.le_antisymm (of_decide_eq_true h1) (of_decide_eq_true h2))
theorem sort_perm {L M : List Bn} (h : L.Perm M) : L.mergeSort bnLe = M.mergeSort bnLe :=
  List.Perm.eq_of_pairwise (le := fun a b => bnLe a b = true) (fun a b _ _ h1 h2 => bnLe_anti h1 h2) (List.pairwise_mergeSort bnLe_trans bnLe_total L) (List.pairwise_mergeSort bnLe_trans bnLe_total M) ((List.mergeSort_perm L bnLe).trans (h.trans (List.mergeSort_perm M bnLe).symm))

theorem ordr_cyc {r : List Nat} {n x y : Nat} (h : Pm r n) (hx : x < n) (hy : y ∈ cyc r n x) : ordr r n y = ordr r n x := by
  obtain ⟨k, _, e⟩ := mem_cyc hy
  obtain ⟨a, _, c, d⟩ := ordr_spec h hx
  refine ordr_of h (cyc_lt h hx hy) a ?_ fun j h1 h2 e2 => d j h1 h2 ?_
  · rw [← e, ← it_add, Nat.add_comm, it_add, c]
  · rw [← e, ← it_add, Nat.add_comm, it_add] at e2
    exact it_inj h (it_lt h hx j) hx k e2
/-- how many squares stand in rounds of one length -/
def cntO (r : List Nat) (n L : Nat) : Nat := (List.range n).countP fun x => decide (ordr r n x = L)
theorem cnt_list {r : List Nat} {n : Nat} (h : Pm r n) (L : Nat) : ∀ ys : List Nat, (∀ y ∈ ys, y < n) → ((ys.map (cyc r n)).flatten.countP fun x => decide (ordr r n x = L)) = (ys.countP fun y => decide (ordr r n y = L)) * L
  | [], _ => by simp
  | y :: ys, hl => by
    have hy := hl y (List.mem_cons_self ..)
    have ih := cnt_list h L ys fun z hz => hl z (List.mem_cons_of_mem _ hz)
    rw [List.map_cons, List.flatten_cons, List.countP_append, ih, List.countP_cons]
    by_cases e : ordr r n y = L
    · have : ((cyc r n y).countP fun x => decide (ordr r n x = L)) = (cyc r n y).length := List.countP_eq_length.mpr fun z hz => by
        simp [ordr_cyc h hy hz, e]
      rw [this, cyc_len, e]
      simp
      rw [Nat.add_mul, Nat.one_mul, Nat.add_comm]
    · have : ((cyc r n y).countP fun x => decide (ordr r n x = L)) = 0 := List.countP_eq_zero.mpr fun z hz => by
        simp [ordr_cyc h hy hz, e]
      rw [this]
      simp [e]
theorem reps_lt {r : List Nat} {n y : Nat} (hy : y ∈ reps r n n) : y < n := List.mem_range.mp (List.mem_filter.mp hy).1
theorem cnt_reps {r : List Nat} {n : Nat} (h : Pm r n) (L : Nat) : cntO r n L = ((reps r n n).countP fun y => decide (ordr r n y = L)) * L := by
  rw [← cnt_list h L (reps r n n) fun y hy => reps_lt hy]
  exact ((rounds_perm h).countP_eq _).symm
theorem types_perm {r s : List Nat} {n : Nat} (hr : Pm r n) (hs : Pm s n) (hc : ∀ L, cntO r n L = cntO s n L) : ((reps r n n).map (ordr r n)).Perm ((reps s n n).map (ordr s n)) := by
  refine List.perm_iff_count.mpr fun L => ?_
  have key : ∀ t : List Nat, ((reps t n n).map (ordr t n)).count L = (reps t n n).countP fun y => decide (ordr t n y = L) := fun t => by
    rw [List.count_eq_countP, List.countP_map]
    refine List.countP_congr fun y _ => ?_
    simp
  rw [key, key]
  by_cases h0 : L = 0
  · have z : ∀ t, Pm t n → ((reps t n n).countP fun y => decide (ordr t n y = L)) = 0 := fun t ht => List.countP_eq_zero.mpr fun y hy => by
      have := (ordr_spec ht (reps_lt hy)).1
      simp
      omega
    rw [z r hr, z s hs]
  · have := hc L
    rw [cnt_reps hr, cnt_reps hs] at this
    exact Nat.eq_of_mul_eq_mul_right (by omega) this
/-- carried over by an order -/
theorem it_conj {r s g : List Nat} {n : Nat} (hr : Pm r n) (e : ∀ x, x < n → ap s (ap g x) = ap g (ap r x)) {x : Nat} (hx : x < n) : ∀ k, it s k (ap g x) = ap g (it r k x)
  | 0 => rfl
  | k + 1 => by
    show ap s (it s k (ap g x)) = _
    rw [it_conj hr e hx k, e _ (it_lt hr hx k)]
    rfl
theorem ordr_conj {r s g : List Nat} {n : Nat} (hr : Pm r n) (hs : Pm s n) (hg : Pm g n) (e : ∀ x, x < n → ap s (ap g x) = ap g (ap r x)) {x : Nat} (hx : x < n) : ordr s n (ap g x) = ordr r n x := by
  obtain ⟨a, _, c, d⟩ := ordr_spec hr hx
  refine ordr_of hs (hg.ap_lt hx) a ?_ fun j h1 h2 e2 => d j h1 h2 ?_
  · rw [it_conj hr e hx, c]
  · rw [it_conj hr e hx] at e2
    exact hg.ap_inj (it_lt hr hx j) hx e2
theorem cnt_conj {r s g : List Nat} {n : Nat} (hr : Pm r n) (hs : Pm s n) (hg : Pm g n) (e : ∀ x, x < n → ap s (ap g x) = ap g (ap r x)) (L : Nat) : cntO r n L = cntO s n L := by
  have hmap : (List.range n).map (ap g) = g := row_ext (m := n) (by simp) hg.len fun x hx => ap_of (by simp [hx])
  have h1 : cntO s n L = (List.range n).countP ((fun x => decide (ordr s n x = L)) ∘ ap g) := by
    rw [← List.countP_map, hmap]
    exact (hg.perm.countP_eq _).symm
  rw [h1]
  unfold cntO
  refine List.countP_congr fun x hx => ?_
  have := ordr_conj hr hs hg e (List.mem_range.mp hx)
  simp [this]
theorem it_bk {r : List Nat} {n : Nat} (hr : Pm r n) {x : Nat} (hx : x < n) : ∀ k, it r k (it (bk n r) k x) = x
  | 0 => rfl
  | k + 1 => by
    have h1 := it_lt (bk_pm hr) hx k
    have e1 : it r (k + 1) (it (bk n r) (k + 1) x) = it r k (it r 1 (ap (bk n r) (it (bk n r) k x))) := by
      rw [← it_add]
      rfl
    rw [e1]
    show it r k (ap r (ap (bk n r) (it (bk n r) k x))) = x
    rw [ap_bk hr h1]
    exact it_bk hr hx k
theorem ordr_bk {r : List Nat} {n : Nat} (hr : Pm r n) {x : Nat} (hx : x < n) : ordr (bk n r) n x = ordr r n x := by
  have hb := bk_pm hr
  obtain ⟨a, _, c, d⟩ := ordr_spec hb hx
  refine (ordr_of hr hx a ?_ fun j h1 h2 e2 => d j h1 h2 ?_).symm
  · have := it_bk hr hx (ordr (bk n r) n x)
    rw [c] at this
    exact this
  · have := it_bk hb hx j
    rw [bk_bk hr, e2] at this
    exact this
theorem cnt_bk {r : List Nat} {n : Nat} (hr : Pm r n) (L : Nat) : cntO (bk n r) n L = cntO r n L := by
  unfold cntO
  refine List.countP_congr fun x hx => ?_
  rw [ordr_bk hr (List.mem_range.mp hx)]

/-! bands, told of one square of their lowest row -/
instance bnDec : DecidableEq Bn := fun a b => if h : a.len = b.len ∧ a.wid = b.wid ∧ a.sh = b.sh then isTrue (by
    cases a
    cases b
    obtain ⟨h1, h2, h3⟩ := h
    simp only at h1 h2 h3
    rw [h1, h2, h3]) else isFalse fun e => h (by rw [e]; exact ⟨rfl, rfl, rfl⟩)
/-- so many steps, back for below nought -/
def zt (r : List Nat) (n : Nat) : Int → Nat → Nat
  | .ofNat k, x => it r k x
  | .negSucc k, x => it (bk n r) (k + 1) x
theorem zt_nat (r : List Nat) (n k x : Nat) : zt r n (k : Nat) x = it r k x := rfl
theorem zt_zero (r : List Nat) (n x : Nat) : zt r n 0 x = x := rfl
theorem zt_lt {r : List Nat} {n x : Nat} (h : Pm r n) (hx : x < n) : ∀ k : Int, zt r n k x < n
  | .ofNat k => it_lt h hx k
  | .negSucc k => it_lt (bk_pm h) hx (k + 1)
theorem zt_succ {r : List Nat} {n x : Nat} (h : Pm r n) (hx : x < n) : ∀ k : Int, zt r n (k + 1) x = ap r (zt r n k x)
  | .ofNat k => rfl
  | .negSucc 0 => by
    show x = ap r (ap (bk n r) x)
    rw [ap_bk h hx]
  | .negSucc (k + 1) => by
    have e : (Int.negSucc (k + 1) + 1 : Int) = Int.negSucc k := by omega
    rw [e]
    show it (bk n r) (k + 1) x = ap r (ap (bk n r) (it (bk n r) (k + 1) x))
    rw [ap_bk h (it_lt (bk_pm h) hx _)]
theorem zt_pred {r : List Nat} {n x : Nat} (h : Pm r n) (hx : x < n) (k : Int) : zt r n (k - 1) x = ap (bk n r) (zt r n k x) := by
  have := zt_succ h hx (k - 1)
  rw [Int.sub_add_cancel] at this
  rw [this, bk_ap h (zt_lt h hx _)]
theorem zt_add {r : List Nat} {n x : Nat} (h : Pm r n) (hx : x < n) (b : Int) : ∀ a : Int, zt r n (a + b) x = zt r n a (zt r n b x) := by
  have hb := zt_lt h hx b
  have up : ∀ a : Nat, zt r n ((a : Int) + b) x = zt r n (a : Int) (zt r n b x) := by
    intro a
    induction a with
    | zero => rw [show ((0 : Nat) : Int) + b = b by omega]; rfl
    | succ a ih =>
      rw [show ((a + 1 : Nat) : Int) + b = ((a : Int) + b) + 1 by omega, zt_succ h hx, ih, show ((a + 1 : Nat) : Int) = (a : Int) + 1 by omega, zt_succ h hb]
  have dn : ∀ a : Nat, zt r n (-(a : Int) + b) x = zt r n (-(a : Int)) (zt r n b x) := by
    intro a
    induction a with
    | zero => rw [show -((0 : Nat) : Int) + b = b by omega]; rfl
    | succ a ih =>
      rw [show -((a + 1 : Nat) : Int) + b = (-(a : Int) + b) - 1 by omega, zt_pred h hx, ih, show -((a + 1 : Nat) : Int) = -(a : Int) - 1 by omega, zt_pred h hb]
  intro a
  rcases Int.le_total 0 a with q | q
  · have := up a.toNat
    rwa [Int.toNat_of_nonneg q] at this
  · have := dn (-a).toNat
    rwa [Int.toNat_of_nonneg (by omega), Int.neg_neg] at this
theorem zt_one {r : List Nat} {n x : Nat} : zt r n 1 x = ap r x := rfl
theorem zt_neg1 {r : List Nat} {n x : Nat} : zt r n (-1) x = ap (bk n r) x := rfl
/-- the row turned round -/
theorem zt_bk {r : List Nat} {n x : Nat} (h : Pm r n) (hx : x < n) : ∀ k : Int, zt (bk n r) n k x = zt r n (-k) x
  | .ofNat 0 => rfl
  | .ofNat (k + 1) => rfl
  | .negSucc k => by
    show it (bk n (bk n r)) (k + 1) x = zt r n (((k + 1 : Nat)) : Int) x
    rw [bk_bk h]
    rfl
/-- a whole number of steps is one of the round's -/
theorem zt_round {r : List Nat} {n x : Nat} (h : Pm r n) (hx : x < n) (k : Int) : zt r n k x = it r (k % (ordr r n x : Nat)).toNat x ∧ (k % (ordr r n x : Nat)).toNat < ordr r n x := by
  obtain ⟨a, _, c, _⟩ := ordr_spec h hx
  have hL : (0 : Int) < (ordr r n x : Nat) := by omega
  have m0 := Int.emod_nonneg k (b := (ordr r n x : Nat)) (by omega)
  have m1 := Int.emod_lt_of_pos k hL
  have full : ∀ q : Nat, zt r n ((q : Int) * (ordr r n x : Nat)) x = x := by
    intro q
    induction q with
    | zero => simp [zt_zero]
    | succ q ih =>
      rw [show ((q + 1 : Nat) : Int) * (ordr r n x : Nat) = (q : Int) * (ordr r n x : Nat) + ((ordr r n x : Nat) : Int) by rw [Int.natCast_add, Int.add_mul]; simp]
      rw [zt_add h hx, zt_nat, c, ih]
  have fulln : ∀ q : Int, zt r n (q * (ordr r n x : Nat)) x = x := by
    intro q
    rcases Int.le_total 0 q with z | z
    · have := full q.toNat
      rwa [Int.toNat_of_nonneg z] at this
    · have e := full (-q).toNat
      rw [Int.toNat_of_nonneg (by omega)] at e
      have e2 := zt_add h hx (-q * (ordr r n x : Nat)) (q * (ordr r n x : Nat))
      rw [e, ← Int.add_mul, show q + -q = 0 by omega, Int.zero_mul] at e2
      exact e2.symm
  refine ⟨?_, by omega⟩
  have e := Int.emod_add_mul_ediv k (ordr r n x : Nat)
  rw [← zt_nat r n, Int.toNat_of_nonneg m0]
  have e2 := zt_add h hx ((ordr r n x : Nat) * (k / (ordr r n x : Nat))) (k % (ordr r n x : Nat))
  rw [e, Int.mul_comm ((ordr r n x : Nat) : Int), fulln] at e2
  exact e2
theorem zt_mem {r : List Nat} {n x : Nat} (h : Pm r n) (hx : x < n) (k : Int) : zt r n k x ∈ cyc r n x := by
  rw [(zt_round h hx k).1]
  exact cyc_mem h hx _
/-- a border in the row of a square -/
def Mk (p : List Nat) (n : Nat) (m : List Nat) (y : Nat) : Prop := ∃ k : Int, zt p n k y ∈ m
structure IsB (p q : List Nat) (n : Nat) (m : List Nat) (y : Nat) (b : Bn) : Prop where
  len : b.len = ordr p n y
  w0 : 0 < b.wid
  up : ∃ k : Int, it q b.wid (zt p n k y) ∈ m
  low : ∀ j, 0 < j → j < b.wid → ∀ k : Int, it q j (zt p n k y) ∉ m
  sh : ∀ t : Nat, t ∈ b.sh ↔ t < b.len ∧ ∃ k : Int, zt p n k y ∈ m ∧ it q b.wid (zt p n (k + t) y) ∈ m
  so : b.sh.Pairwise (· < ·)
theorem sorted_ext : ∀ {a b : List Nat}, a.Pairwise (· < ·) → b.Pairwise (· < ·) → (∀ x, x ∈ a ↔ x ∈ b) → a = b := fun {a b} ha hb h => by
  have nd : ∀ {l : List Nat}, l.Pairwise (· < ·) → l.Nodup := fun hl => List.nodup_iff_pairwise_ne.mpr (hl.imp fun h => Nat.ne_of_lt h)
  exact List.Perm.eq_of_pairwise (le := (· < ·)) (fun x y _ _ h1 h2 => absurd h1 (Nat.lt_asymm h2)) ha hb ((List.perm_ext_iff_of_nodup (nd ha) (nd hb)).mpr h)
theorem IsB.uniq {p q : List Nat} {n : Nat} {m : List Nat} {y : Nat} {b c : Bn} (hb : IsB p q n m y b) (hc : IsB p q n m y c) : b = c := by
  have hl : b.len = c.len := hb.len.trans hc.len.symm
  have hw : b.wid = c.wid := by
    obtain ⟨k, hk⟩ := hb.up
    obtain ⟨l, hl⟩ := hc.up
    rcases Nat.lt_trichotomy b.wid c.wid with z | z | z
    · exact absurd hk (hc.low _ hb.w0 z k)
    · exact z
    · exact absurd hl (hb.low _ hc.w0 z l)
  have hs : b.sh = c.sh := sorted_ext hb.so hc.so fun t => by rw [hb.sh, hc.sh, hl, hw]
  cases b
  cases c
  simp only at hl hw hs
  rw [hl, hw, hs]
theorem IsB.shift {p q : List Nat} {n : Nat} {m : List Nat} {y : Nat} {b : Bn} (hp : Pm p n) (hy : y < n) (hb : IsB p q n m y b) (j : Int) : IsB p q n m (zt p n j y) b := by
  have e : ∀ k : Int, zt p n k (zt p n j y) = zt p n (k + j) y := fun k => (zt_add hp hy j k).symm
  refine ⟨?_, hb.w0, ?_, fun i h0 h1 k => by rw [e]; exact hb.low i h0 h1 _, fun t => ?_, hb.so⟩
  · rw [hb.len, ordr_cyc hp hy (zt_mem hp hy j)]
  · obtain ⟨k, hk⟩ := hb.up
    exact ⟨k - j, by rw [e, Int.sub_add_cancel]; exact hk⟩
  · rw [hb.sh]
    refine and_congr_right fun _ => ⟨fun ⟨k, h1, h2⟩ => ⟨k - j, ?_, ?_⟩, fun ⟨k, h1, h2⟩ => ⟨k + j, ?_, ?_⟩⟩
    · rw [e, Int.sub_add_cancel]; exact h1
    · rw [e, show k - j + (t : Int) + j = k + t by omega]; exact h2
    · rw [← e]; exact h1
    · rw [show k + j + (t : Int) = k + t + j by omega, ← e]; exact h2
theorem hasM_cyc {p : List Nat} {n : Nat} {m : List Nat} {y : Nat} (hp : Pm p n) (hy : y < n) : hasM m (cyc p n y) = true ↔ Mk p n m y := by
  unfold hasM Mk
  rw [List.any_eq_true]
  constructor
  · intro ⟨x, hx, hm⟩
    obtain ⟨k, _, e⟩ := mem_cyc hx
    exact ⟨(k : Nat), by rw [zt_nat, e]; simpa using hm⟩
  · intro ⟨k, hk⟩
    exact ⟨_, zt_mem hp hy k, by simpa using hk⟩
theorem hasM_abv {p q : List Nat} {n : Nat} {m : List Nat} {y w : Nat} (hp : Pm p n) (hy : y < n) : hasM m (abv q (cyc p n y) w) = true ↔ ∃ k : Int, it q w (zt p n k y) ∈ m := by
  unfold hasM abv
  rw [List.any_eq_true]
  constructor
  · intro ⟨x, hx, hm⟩
    obtain ⟨z, hz, e⟩ := List.mem_map.mp hx
    obtain ⟨k, _, e2⟩ := mem_cyc hz
    exact ⟨(k : Nat), by rw [zt_nat, e2, e]; simpa using hm⟩
  · intro ⟨k, hk⟩
    exact ⟨_, List.mem_map.mpr ⟨_, zt_mem hp hy k, rfl⟩, by simpa using hk⟩
theorem wdt_spec {q row m : List Nat} {n : Nat} (hq : Pm q n) (hr : ∀ x ∈ row, x < n) (h : hasM m row = true) : 0 < wdt q row m n ∧ hasM m (abv q row (wdt q row m n)) = true ∧ ∀ j, 0 < j → j < wdt q row m n → hasM m (abv q row j) = false := by
  obtain ⟨k, k0, k1, hk⟩ := abv_has hq hr h
  cases e : (List.range n).find? (fun k => hasM m (abv q row (k + 1))) with
  | none =>
    have := List.find?_eq_none.mp e (k - 1) (List.mem_range.mpr (by omega))
    rw [show k - 1 + 1 = k by omega, hk] at this
    exact absurd rfl this
  | some w =>
    obtain ⟨h1, h2, h3⟩ := List.find?_range_eq_some.mp e
    have ew : wdt q row m n = w + 1 := by
      unfold wdt
      rw [e]
      rfl
    rw [ew]
    refine ⟨by omega, h1, fun j h0 hj => ?_⟩
    have := h3 (j - 1) (by omega)
    rw [show j - 1 + 1 = j by omega] at this
    simpa using this
theorem ap_cyc {p : List Nat} {n y k : Nat} (h : k < ordr p n y) : ap (cyc p n y) k = it p k y := ap_of (by simp [cyc, h])
theorem isB_of {p q : List Nat} {n : Nat} {m : List Nat} {y : Nat} (hp : Pm p n) (hq : Pm q n) (hy : y < n) (h : Mk p n m y) : IsB p q n m y (bandOf q (cyc p n y) m n) := by
  obtain ⟨w0, w1, w2⟩ := wdt_spec (m := m) hq (fun x hx => cyc_lt hp hy hx) ((hasM_cyc hp hy).mpr h)
  obtain ⟨o0, _, oc, _⟩ := ordr_spec hp hy
  refine ⟨cyc_len p n y, w0, (hasM_abv hp hy).mp w1, fun j h0 h1 k hk => ?_, fun t => ?_, List.Pairwise.filter _ List.pairwise_lt_range⟩
  · have := w2 j h0 h1
    rw [(hasM_abv hp hy).mpr ⟨k, hk⟩] at this
    cases this
  · show t ∈ (List.range (cyc p n y).length).filter _ ↔ t < (cyc p n y).length ∧ _
    rw [List.mem_filter, List.mem_range]
    refine and_congr_right fun ht => ?_
    rw [cyc_len] at ht
    show hits (cyc p n y) m (abv q (cyc p n y) (wdt q (cyc p n y) m n)) t = true ↔ ∃ k : Int, zt p n k y ∈ m ∧ it q (wdt q (cyc p n y) m n) (zt p n (k + t) y) ∈ m
    generalize wdt q (cyc p n y) m n = w
    have hap : ∀ j, ap (abv q (cyc p n y) w) (j % ordr p n y) = it q w (zt p n (j : Nat) y) := fun j => by
      have hj := Nat.mod_lt j o0
      have e1 : ap (abv q (cyc p n y) w) (j % ordr p n y) = it q w (it p (j % ordr p n y) y) := ap_of (by simp [abv, cyc, hj])
      rw [e1, (zt_round hp hy (j : Nat)).1]
      have : ((j : Int) % (ordr p n y : Nat)).toNat = j % ordr p n y := by
        rw [← Int.natCast_emod, Int.toNat_natCast]
      rw [this]
    unfold hits hasM
    rw [List.any_eq_true]
    constructor
    · intro ⟨x, hx, hm⟩
      obtain ⟨k, hk, e⟩ := List.mem_map.mp hx
      have hk := List.mem_filter.mp hk
      have hkl := List.mem_range.mp hk.1
      rw [cyc_len] at hkl e
      have hkm : ap (cyc p n y) k ∈ m := by simpa using hk.2
      rw [ap_cyc hkl] at hkm
      refine ⟨(k : Nat), hkm, ?_⟩
      rw [← Int.natCast_add, ← hap, e]
      simpa using hm
    · intro ⟨k, h1, h2⟩
      obtain ⟨e1, e2⟩ := zt_round hp hy k
      refine ⟨it q w (zt p n (k + t) y), List.mem_map.mpr ⟨(k % (ordr p n y : Nat)).toNat, List.mem_filter.mpr ⟨List.mem_range.mpr (by rw [cyc_len]; exact e2), ?_⟩, ?_⟩, by simpa using h2⟩
      · rw [ap_cyc e2, ← e1]
        simpa using h1
      · rw [cyc_len, hap, Int.natCast_add]
        have : zt p n (((k % (ordr p n y : Nat)).toNat : Int) + t) y = zt p n (k + t) y := by
          have a1 := zt_add hp hy ((k % (ordr p n y : Nat)).toNat : Int) (t : Int)
          have a2 := zt_add hp hy k (t : Int)
          rw [zt_nat p n (k % (ordr p n y : Nat)).toNat, ← e1, ← a2] at a1
          rw [Int.add_comm, a1, Int.add_comm]
        rw [this]
/-! counted -/
theorem cnt_inj {n : Nat} (P Q : Nat → Bool) (φ : Nat → Nat) (h : ∀ x, x < n → P x = true → φ x < n ∧ Q (φ x) = true) (hi : ∀ x y, x < n → y < n → P x = true → P y = true → φ x = φ y → x = y) : (List.range n).countP P ≤ (List.range n).countP Q := by
  rw [List.countP_eq_length_filter, List.countP_eq_length_filter]
  have hnd : (((List.range n).filter P).map φ).Nodup := by
    rw [List.nodup_iff_pairwise_ne, List.pairwise_map]
    refine List.Pairwise.imp_of_mem (fun {x y} hx hy hne e => ?_) (List.nodup_iff_pairwise_ne.mp (List.Pairwise.filter P List.nodup_range))
    have hx := List.mem_filter.mp hx
    have hy := List.mem_filter.mp hy
    exact hne (hi x y (List.mem_range.mp hx.1) (List.mem_range.mp hy.1) hx.2 hy.2 e)
  have := List.Nodup.length_le_of_subset hnd (l₂ := (List.range n).filter Q) fun y hy => by
    obtain ⟨x, hx, rfl⟩ := List.mem_map.mp hy
    have hx := List.mem_filter.mp hx
    obtain ⟨h1, h2⟩ := h x (List.mem_range.mp hx.1) hx.2
    exact List.mem_filter.mpr ⟨List.mem_range.mpr h1, h2⟩
  simpa using this
section
variable {α : Type} [DecidableEq α]
theorem cnt_fm {r : List Nat} {n : Nat} (hr : Pm r n) (f : Nat → Option α) (L : α → Nat) (f1 : ∀ x, x < n → ∀ y ∈ cyc r n x, f y = f x) (f2 : ∀ x, x < n → ∀ a, f x = some a → ordr r n x = L a) (a : α) :
    ∀ ys : List Nat, (∀ y ∈ ys, y < n) → ((ys.map (cyc r n)).flatten.countP fun x => decide (f x = some a)) = (ys.countP fun y => decide (f y = some a)) * L a
  | [], _ => by simp
  | y :: ys, hl => by
    have hy := hl y (List.mem_cons_self ..)
    have ih := cnt_fm hr f L f1 f2 a ys fun z hz => hl z (List.mem_cons_of_mem _ hz)
    rw [List.map_cons, List.flatten_cons, List.countP_append, ih, List.countP_cons]
    by_cases e : f y = some a
    · have : ((cyc r n y).countP fun x => decide (f x = some a)) = (cyc r n y).length := List.countP_eq_length.mpr fun z hz => by
        rw [f1 y hy z hz]
        simp [e]
      rw [this, cyc_len, f2 y hy a e]
      simp [e]
      rw [Nat.add_mul, Nat.one_mul, Nat.add_comm]
    · have : ((cyc r n y).countP fun x => decide (f x = some a)) = 0 := List.countP_eq_zero.mpr fun z hz => by
        rw [f1 y hy z hz]
        simp [e]
      rw [this]
      simp [e]
theorem fm_count (f : Nat → Option α) (a : α) : ∀ ys : List Nat, (ys.filterMap f).count a = ys.countP fun y => decide (f y = some a)
  | [] => rfl
  | y :: ys => by
    have ih := fm_count f a ys
    rw [List.countP_cons]
    cases e : f y with
    | none => rw [List.filterMap_cons_none e, ih]; simp
    | some b =>
      rw [List.filterMap_cons_some e, List.count_cons, ih]
      simp
theorem reps_fm {r s : List Nat} {n : Nat} (hr : Pm r n) (hs : Pm s n) (f g : Nat → Option α) (L : α → Nat)
    (f1 : ∀ x, x < n → ∀ y ∈ cyc r n x, f y = f x) (f2 : ∀ x, x < n → ∀ a, f x = some a → ordr r n x = L a)
    (g1 : ∀ x, x < n → ∀ y ∈ cyc s n x, g y = g x) (g2 : ∀ x, x < n → ∀ a, g x = some a → ordr s n x = L a)
    (h : ∀ a, ((List.range n).countP fun x => decide (f x = some a)) = (List.range n).countP fun x => decide (g x = some a)) :
    ((reps r n n).filterMap f).Perm ((reps s n n).filterMap g) := by
  refine List.perm_iff_count.mpr fun a => ?_
  rw [fm_count, fm_count]
  have c1 := cnt_fm hr f L f1 f2 a (reps r n n) fun y hy => reps_lt hy
  have c2 := cnt_fm hs g L g1 g2 a (reps s n n) fun y hy => reps_lt hy
  rw [(rounds_perm hr).countP_eq] at c1
  rw [(rounds_perm hs).countP_eq] at c2
  by_cases h0 : L a = 0
  · have z1 : ((reps r n n).countP fun y => decide (f y = some a)) = 0 := List.countP_eq_zero.mpr fun y hy e => by
      have := f2 y (reps_lt hy) a (by simpa using e)
      have := (ordr_spec hr (reps_lt hy)).1
      omega
    have z2 : ((reps s n n).countP fun y => decide (g y = some a)) = 0 := List.countP_eq_zero.mpr fun y hy e => by
      have := g2 y (reps_lt hy) a (by simpa using e)
      have := (ordr_spec hs (reps_lt hy)).1
      omega
    rw [z1, z2]
  · have := h a
    rw [c1, c2] at this
    exact Nat.eq_of_mul_eq_mul_right (by omega) this
end
/-! the bands by any borders -/
def bandLm (p q : List Nat) (n : Nat) (m : List Nat) : List Bn := (((reps p n n).map (cyc p n)).filter (hasM m)).map fun row => bandOf q row m n
theorem bandL_m (p q : List Nat) (n : Nat) : bandL p q n = bandLm p q n (marksL p q n) := rfl
def fB (p q : List Nat) (n : Nat) (m : List Nat) (F : Bn → Bn) (y : Nat) : Option Bn := if hasM m (cyc p n y) = true then some (F (bandOf q (cyc p n y) m n)) else none
theorem bandLm_fm (p q : List Nat) (n : Nat) (m : List Nat) (F : Bn → Bn) : ∀ ys : List Nat, (((ys.map (cyc p n)).filter (hasM m)).map fun row => bandOf q row m n).map F = ys.filterMap (fB p q n m F)
  | [] => rfl
  | y :: ys => by
    have ih := bandLm_fm p q n m F ys
    rw [List.map_cons]
    by_cases h : hasM m (cyc p n y) = true
    · rw [List.filter_cons_of_pos h, List.map_cons, List.map_cons, ih, List.filterMap_cons_some (by unfold fB; rw [if_pos h])]
    · rw [List.filter_cons_of_neg h, ih, List.filterMap_cons_none (by unfold fB; rw [if_neg h])]
theorem fB_cyc {p q : List Nat} {n : Nat} {m : List Nat} (F : Bn → Bn) (hp : Pm p n) (hq : Pm q n) : ∀ x, x < n → ∀ y ∈ cyc p n x, fB p q n m F y = fB p q n m F x := fun x hx y hy => by
  obtain ⟨k, _, e⟩ := mem_cyc hy
  have hyn := cyc_lt hp hx hy
  have ez : y = zt p n (k : Nat) x := by rw [zt_nat, e]
  have hM : Mk p n m y ↔ Mk p n m x := by
    rw [ez]
    exact ⟨fun ⟨j, h⟩ => ⟨j + (k : Nat), by rw [zt_add hp hx]; exact h⟩, fun ⟨j, h⟩ => ⟨j - (k : Nat), by rw [← zt_add hp hx, Int.sub_add_cancel]; exact h⟩⟩
  unfold fB
  by_cases h : hasM m (cyc p n x) = true
  · have hx' := (hasM_cyc hp hx).mp h
    have hy' := hM.mpr hx'
    rw [if_pos h, if_pos ((hasM_cyc hp hyn).mpr hy')]
    have b1 := (isB_of hp hq hx hx').shift hp hx (k : Nat)
    rw [← ez] at b1
    rw [(isB_of hp hq hyn hy').uniq b1]
  · have h' : ¬ hasM m (cyc p n y) = true := fun z => h ((hasM_cyc hp hx).mpr (hM.mp ((hasM_cyc hp hyn).mp z)))
    rw [if_neg h, if_neg h']
theorem fB_some {p q : List Nat} {n : Nat} {m : List Nat} {F : Bn → Bn} (hp : Pm p n) (hq : Pm q n) {x : Nat} (hx : x < n) {a : Bn} : fB p q n m F x = some a ↔ Mk p n m x ∧ ∃ b, IsB p q n m x b ∧ F b = a := by
  unfold fB
  constructor
  · intro h
    split at h
    · rename_i hm
      have hM := (hasM_cyc hp hx).mp hm
      injection h with h
      exact ⟨hM, _, isB_of hp hq hx hM, h⟩
    · cases h
  · intro ⟨hM, b, hb, e⟩
    rw [if_pos ((hasM_cyc hp hx).mpr hM), (isB_of hp hq hx hM).uniq hb, e]
/-- THE RULE: bands carried over, square by square of their lowest rows -/
theorem bl_perm {p q p' q' : List Nat} {n : Nat} {m m' : List Nat} (F : Bn → Bn) (hF : ∀ b, (F b).len = b.len) (hp : Pm p n) (hq : Pm q n) (hp' : Pm p' n) (hq' : Pm q' n) (φ ψ : Nat → Nat)
    (fw : ∀ y, y < n → Mk p n m y → φ y < n ∧ Mk p' n m' (φ y) ∧ ∀ b, IsB p q n m y b → IsB p' q' n m' (φ y) (F b)) (fi : ∀ x y, x < n → y < n → Mk p n m x → Mk p n m y → φ x = φ y → x = y)
    (bw : ∀ y, y < n → Mk p' n m' y → ψ y < n ∧ Mk p n m (ψ y) ∧ ∀ b, IsB p q n m (ψ y) b → IsB p' q' n m' y (F b)) (bi : ∀ x y, x < n → y < n → Mk p' n m' x → Mk p' n m' y → ψ x = ψ y → x = y) :
    (bandLm p' q' n m').Perm ((bandLm p q n m).map F) := by
  have e1 : bandLm p' q' n m' = (reps p' n n).filterMap (fB p' q' n m' id) := by
    rw [← bandLm_fm, List.map_id]
    rfl
  have e2 : (bandLm p q n m).map F = (reps p n n).filterMap (fB p q n m F) := bandLm_fm p q n m F _
  rw [e1, e2]
  refine reps_fm hp' hp _ _ Bn.len (fB_cyc id hp' hq') (fun x hx a h => ?_) (fB_cyc F hp hq) (fun x hx a h => ?_) fun a => Nat.le_antisymm ?_ ?_
  · obtain ⟨_, b, hb, e⟩ := (fB_some hp' hq' hx).mp h
    rw [← e]
    exact hb.len.symm
  · obtain ⟨_, b, hb, e⟩ := (fB_some hp hq hx).mp h
    rw [← e, hF]
    exact hb.len.symm
  · refine cnt_inj _ _ ψ (fun x hx h => ?_) fun x y hx hy h1 h2 e => ?_
    · obtain ⟨hM, b, hb, e⟩ := (fB_some hp' hq' hx).mp (by simpa using h)
      obtain ⟨g1, g2, g3⟩ := bw x hx hM
      have hb2 := isB_of hp hq g1 g2
      refine ⟨g1, ?_⟩
      have := (fB_some (F := F) hp hq g1).mpr ⟨g2, _, hb2, (g3 _ hb2).uniq hb⟩
      rw [← e]
      simpa using this
    · exact bi x y hx hy ((fB_some hp' hq' hx).mp (by simpa using h1)).1 ((fB_some hp' hq' hy).mp (by simpa using h2)).1 e
  · refine cnt_inj _ _ φ (fun x hx h => ?_) fun x y hx hy h1 h2 e => ?_
    · obtain ⟨hM, b, hb, e⟩ := (fB_some hp hq hx).mp (by simpa using h)
      obtain ⟨g1, g2, g3⟩ := fw x hx hM
      refine ⟨g1, ?_⟩
      have := (fB_some (F := id) hp' hq' g1).mpr ⟨g2, _, g3 b hb, rfl⟩
      rw [← e]
      simpa using this
    · exact fi x y hx hy ((fB_some hp hq hx).mp (by simpa using h1)).1 ((fB_some hp hq hy).mp (by simpa using h2)).1 e
/-- numbered anew -/
theorem it_cj {r s g : List Nat} {n : Nat} (hr : Pm r n) (e : ∀ x, x < n → ap s (ap g x) = ap g (ap r x)) {x : Nat} (hx : x < n) (k : Nat) : it s k (ap g x) = ap g (it r k x) := it_conj hr e hx k
theorem zt_cj {r s g : List Nat} {n : Nat} (hr : Pm r n) (hs : Pm s n) (hg : Pm g n) (e : ∀ x, x < n → ap s (ap g x) = ap g (ap r x)) {x : Nat} (hx : x < n) : ∀ k : Int, zt s n k (ap g x) = ap g (zt r n k x)
  | .ofNat k => it_conj hr e hx k
  | .negSucc k => it_conj (bk_pm hr) (fun y hy => by
      have hb := (bk_pm hr).ap_lt hy
      have := e _ hb
      rw [ap_bk hr hy] at this
      rw [← this, bk_ap hs (hg.ap_lt hb)]) hx (k + 1)
theorem bl_conj {p q p' q' g : List Nat} {n : Nat} {m m' : List Nat} (hp : Pm p n) (hq : Pm q n) (hp' : Pm p' n) (hq' : Pm q' n) (hg : Pm g n) (e1 : ∀ x, x < n → ap p' (ap g x) = ap g (ap p x)) (e2 : ∀ x, x < n → ap q' (ap g x) = ap g (ap q x)) (hm : ∀ x, x < n → (ap g x ∈ m' ↔ x ∈ m)) :
    (bandLm p' q' n m').Perm (bandLm p q n m) := by
  have key : ∀ y, y < n → ∀ b, IsB p q n m y b → IsB p' q' n m' (ap g y) b := fun y hy b hb => by
    have z : ∀ k : Int, zt p' n k (ap g y) = ap g (zt p n k y) := zt_cj hp hp' hg e1 hy
    have i : ∀ (j : Nat) (k : Int), it q' j (zt p' n k (ap g y)) = ap g (it q j (zt p n k y)) := fun j k => by rw [z, it_conj hq e2 (zt_lt hp hy k)]
    refine ⟨by rw [hb.len, ordr_conj hp hp' hg e1 hy], hb.w0, ?_, fun j h0 h1 k => ?_, fun t => ?_, hb.so⟩
    · obtain ⟨k, hk⟩ := hb.up
      exact ⟨k, by rw [i]; exact (hm _ (it_lt hq (zt_lt hp hy k) _)).mpr hk⟩
    · rw [i, hm _ (it_lt hq (zt_lt hp hy k) _)]
      exact hb.low j h0 h1 k
    · rw [hb.sh]
      refine and_congr_right fun _ => exists_congr fun k => ?_
      rw [z, i, hm _ (zt_lt hp hy k), hm _ (it_lt hq (zt_lt hp hy _) _)]
  have mk : ∀ y, y < n → (Mk p' n m' (ap g y) ↔ Mk p n m y) := fun y hy => exists_congr fun k => by
    rw [zt_cj hp hp' hg e1 hy, hm _ (zt_lt hp hy k)]
  have h := bl_perm (m := m) (m' := m') id (fun _ => rfl) hp hq hp' hq' (ap g) (ap (bk n g)) (fun y hy hM => ⟨hg.ap_lt hy, (mk y hy).mpr hM, fun b hb => key y hy b hb⟩) (fun x y hx hy _ _ e => hg.ap_inj hx hy e)
    (fun y hy hM => by
      have hb := (bk_pm hg).ap_lt hy
      refine ⟨hb, (mk _ hb).mp (by rw [ap_bk hg hy]; exact hM), fun b h => ?_⟩
      have := key _ hb b h
      rwa [ap_bk hg hy] at this) (fun x y hx hy _ _ e => (bk_pm hg).ap_inj hx hy e)
  rwa [List.map_id] at h

def duesL (p q : List Nat) (n i : Nat) : List Nat := (List.range i).filter fun k => decide (trn n p q k ≠ k)
theorem bigs_nd {r : List Nat} {n : Nat} (h : Pm r n) : (bigs r n).flatten.Nodup := by
  have h1 : (((reps r n n).map (cyc r n)).flatten).Nodup := (rounds_perm h).nodup_iff.mpr List.nodup_range
  unfold bigs
  unfold List.Nodup at h1 ⊢
  rw [List.pairwise_flatten] at h1 ⊢
  exact ⟨fun l hl => h1.1 l (List.mem_filter.mp hl).1, h1.2.filter _⟩
theorem mem_bigs {r : List Nat} {n z : Nat} (h : Pm r n) : z ∈ (bigs r n).flatten ↔ z < n ∧ ap r z ≠ z := by
  unfold bigs
  rw [List.mem_flatten]
  constructor
  · rintro ⟨c, hc, hz⟩
    obtain ⟨h1, h2⟩ := List.mem_filter.mp hc
    obtain ⟨y, hy, rfl⟩ := List.mem_map.mp h1
    have hyn := List.mem_range.mp (List.mem_filter.mp hy).1
    have hzn := cyc_lt h hyn hz
    refine ⟨hzn, fun e => ?_⟩
    have hy2 := cyc_sym h hyn hz
    obtain ⟨k, hk, ek⟩ := mem_cyc hy2
    have hfix : ∀ k, it r k z = z := fun k => by
      induction k with
      | zero => rfl
      | succ k ih =>
        show ap r (it r k z) = z
        rw [ih, e]
    rw [hfix] at ek
    subst ek
    have h3 : ordr r n z = 1 := ordr_of h hzn (by omega) (hfix 1) fun j h0 hj => by omega
    have h4 := of_decide_eq_true h2
    unfold cyc at h4
    rw [List.length_map, List.length_range] at h4
    omega
  · rintro ⟨hz, hne⟩
    obtain ⟨y, hy, ho, hm⟩ := rep_ex h (z + 1) z (by omega) hz
    refine ⟨cyc r n y, List.mem_filter.mpr ⟨List.mem_map.mpr ⟨y, List.mem_filter.mpr ⟨List.mem_range.mpr (by omega), ho⟩, rfl⟩, ?_⟩, hm⟩
    refine decide_eq_true ?_
    unfold cyc
    rw [List.length_map, List.length_range]
    have h1 := ordr_spec h (show y < n by omega)
    rcases Nat.lt_or_ge 1 (ordr r n y) with h2 | h2
    · exact h2
    · exfalso
      have h3 : ordr r n y = 1 := by omega
      obtain ⟨k, hk, ek⟩ := mem_cyc hm
      have hk0 : k = 0 := by omega
      subst hk0
      have ez : y = z := ek
      subst ez
      have := h1.2.2.1
      rw [h3] at this
      exact hne this
theorem marks_eq {p q : List Nat} {n : Nat} (hp : Pm p n) (hq : Pm q n) : marksL p q n = if duesL p q n n = [] then [0] else duesL p q n n := by
  have hr := trn_pm hp hq
  have hmem : ∀ z, z ∈ (bigs (rowOf n (trn n p q)) n).flatten ↔ z ∈ duesL p q n n := fun z => by
    rw [mem_bigs hr]
    unfold duesL
    rw [List.mem_filter, List.mem_range]
    constructor
    · rintro ⟨h1, h2⟩
      rw [ap_rowOf h1] at h2
      exact ⟨h1, decide_eq_true h2⟩
    · rintro ⟨h1, h2⟩
      rw [ap_rowOf h1]
      exact ⟨h1, of_decide_eq_true h2⟩
  have hnd : (duesL p q n n).Nodup := List.nodup_range.filter _
  have hpm : (bigs (rowOf n (trn n p q)) n).flatten.Perm (duesL p q n n) := (List.perm_ext_iff_of_nodup (bigs_nd hr) hnd).mpr hmem
  unfold marksL
  by_cases h : duesL p q n n = []
  · rw [if_pos h, if_pos (by rw [h] at hpm; exact hpm.eq_nil)]
  · rw [if_neg h, if_neg (fun e => h (by rw [e] at hpm; exact hpm.symm.eq_nil))]
    refine List.Perm.eq_of_pairwise (le := (· ≤ ·)) (fun a b _ _ h1 h2 => Nat.le_antisymm h1 h2) (nsrt_le _) ?_ ((nsrt_perm _).trans hpm)
    unfold duesL
    exact (List.Pairwise.imp (fun h => Nat.le_of_lt h) List.pairwise_lt_range).filter _

/-! borders, and bands by other numbers -/
def Plain (p q : List Nat) (n : Nat) : Prop := ∀ x, x < n → trn n p q x = x
theorem marks_plain {p q : List Nat} {n : Nat} (hp : Pm p n) (hq : Pm q n) (h : Plain p q n) : marksL p q n = [0] := by
  rw [marks_eq hp hq, if_pos]
  unfold duesL
  rw [List.filter_eq_nil_iff]
  intro x hx
  simp [h x (List.mem_range.mp hx)]
theorem marks_mem {p q : List Nat} {n : Nat} (hp : Pm p n) (hq : Pm q n) (h : ¬ Plain p q n) (z : Nat) : z ∈ marksL p q n ↔ z < n ∧ trn n p q z ≠ z := by
  have hne : duesL p q n n ≠ [] := fun e => h fun x hx => by
    unfold duesL at e
    have := List.filter_eq_nil_iff.mp e x (List.mem_range.mpr hx)
    simpa using this
  rw [marks_eq hp hq, if_neg hne]
  unfold duesL
  rw [List.mem_filter, List.mem_range]
  simp
theorem marks_so {p q : List Nat} {n : Nat} (hp : Pm p n) (hq : Pm q n) : (marksL p q n).Pairwise (· < ·) := by
  rw [marks_eq hp hq]
  split
  · simp
  · exact List.Pairwise.filter _ List.pairwise_lt_range
theorem plain_comm {p q : List Nat} {n : Nat} (hp : Pm p n) (hq : Pm q n) {x : Nat} (hx : x < n) (h : trn n p q (ap p (ap q x)) = ap p (ap q x)) : ap q (ap p x) = ap p (ap q x) := by
  unfold trn at h
  rw [bk_ap hp (hq.ap_lt hx), bk_ap hq hx] at h
  exact h
theorem re_it {a b : List Nat} {x : Nat} (h : Re a b x) : ∀ k, Re a b (it a k x)
  | 0 => h
  | k + 1 => .fa (re_it h k)
theorem re_it2 {a b : List Nat} {x : Nat} (h : Re a b x) : ∀ k, Re a b (it b k x)
  | 0 => h
  | k + 1 => .fb (re_it2 h k)
theorem bk_it {r : List Nat} {n x : Nat} (h : Pm r n) (hx : x < n) : ap (bk n r) x = it r (ordr r n x - 1) x := by
  obtain ⟨a, _, c, _⟩ := ordr_spec h hx
  have e : ap r (it r (ordr r n x - 1) x) = x := by
    show it r (ordr r n x - 1 + 1) x = x
    rw [Nat.sub_add_cancel a]
    exact c
  have := bk_ap h (it_lt h hx (ordr r n x - 1))
  rwa [e] at this
theorem re_lt {a b : List Nat} {n x : Nat} (ha : Pm a n) (hb : Pm b n) (h0 : 0 < n) (h : Re a b x) : x < n := by
  induction h with
  | z => exact h0
  | fa _ ih => exact ha.ap_lt ih
  | fb _ ih => exact hb.ap_lt ih
theorem re_bk {a b : List Nat} {n x : Nat} (ha : Pm a n) (hx : x < n) (h : Re a b x) : Re a b (ap (bk n a) x) := by
  rw [bk_it ha hx]
  exact re_it h _
theorem re_bk2 {a b : List Nat} {n x : Nat} (hb : Pm b n) (hx : x < n) (h : Re a b x) : Re a b (ap (bk n b) x) := by
  rw [bk_it hb hx]
  exact re_it2 h _
theorem sh_bkr {p q : List Nat} {n : Nat} (h : Sh p q n) : Sh (bk n p) q n := by
  have hb := bk_pm h.hp
  refine ⟨hb, h.hq, h.pos, fun x hx => ?_⟩
  have key : ∀ y, Re p q y → Re (bk n p) q y := fun y hy => by
    induction hy with
    | z => exact .z
    | fa hy ih =>
      have := re_bk hb (re_lt h.hp h.hq h.pos hy) ih
      rwa [bk_bk h.hp] at this
    | fb _ ih => exact .fb ih
  exact key x (h.re x hx)
theorem sh_swap {p q : List Nat} {n : Nat} (h : Sh p q n) : Sh q p n := by
  refine ⟨h.hq, h.hp, h.pos, fun x hx => ?_⟩
  have key : ∀ y, Re p q y → Re q p y := fun y hy => by
    induction hy with
    | z => exact .z
    | fa _ ih => exact .fb ih
    | fb _ ih => exact .fa ih
  exact key x (h.re x hx)
theorem sh_upr {p q : List Nat} {n : Nat} (h : Sh p q n) : Sh q (bk n p) n := sh_swap (sh_bkr h)
/-- all corners plain: which square is the border changes nothing -/
theorem bl_plain {p q : List Nat} {n : Nat} (h : Sh p q n) (hP : Plain p q n) : ∀ y, y < n → (bandLm p q n [y]).Perm (bandLm p q n [0]) := fun y hy => by
  have hp := h.hp
  have hq := h.hq
  have cm : ∀ x, x < n → ap q (ap p x) = ap p (ap q x) := fun x hx => plain_comm hp hq hx (hP _ (hp.ap_lt (hq.ap_lt hx)))
  have key : ∀ y, Re p q y → (bandLm p q n [y]).Perm (bandLm p q n [0]) := fun y hy => by
    induction hy with
    | z => exact List.Perm.refl _
    | fa hy ih =>
      have hyn := re_lt hp hq h.pos hy
      refine (bl_conj hp hq hp hq hp (fun x _ => rfl) cm fun x hx => ?_).trans ih
      rw [List.mem_singleton, List.mem_singleton]
      exact ⟨fun e => hp.ap_inj hx hyn e, fun e => by rw [e]⟩
    | fb hy ih =>
      have hyn := re_lt hp hq h.pos hy
      refine (bl_conj hp hq hp hq hq (fun x hx => (cm x hx).symm) (fun x _ => rfl) fun x hx => ?_).trans ih
      rw [List.mem_singleton, List.mem_singleton]
      exact ⟨fun e => hq.ap_inj hx hyn e, fun e => by rw [e]⟩
  exact key y (h.re y hy)
theorem bk_cj {r s g : List Nat} {n : Nat} (hr : Pm r n) (hs : Pm s n) (hg : Pm g n) (e : ∀ x, x < n → ap s (ap g x) = ap g (ap r x)) : ∀ x, x < n → ap (bk n s) (ap g x) = ap g (ap (bk n r) x) := fun y hy => by
  have hb := (bk_pm hr).ap_lt hy
  have := e _ hb
  rw [ap_bk hr hy] at this
  rw [← this, bk_ap hs (hg.ap_lt hb)]
theorem trn_cj {p q p' q' g : List Nat} {n : Nat} (hp : Pm p n) (hq : Pm q n) (hp' : Pm p' n) (hq' : Pm q' n) (hg : Pm g n) (e1 : ∀ x, x < n → ap p' (ap g x) = ap g (ap p x)) (e2 : ∀ x, x < n → ap q' (ap g x) = ap g (ap q x)) {x : Nat} (hx : x < n) : trn n p' q' (ap g x) = ap g (trn n p q x) := by
  have l1 := (bk_pm hp).ap_lt hx
  have l2 := (bk_pm hq).ap_lt l1
  unfold trn
  rw [bk_cj hp hp' hg e1 x hx, bk_cj hq hq' hg e2 _ l1, e1 _ l2, e2 _ (hp.ap_lt l2)]
theorem plain_cj {p q p' q' g : List Nat} {n : Nat} (hp : Pm p n) (hq : Pm q n) (hp' : Pm p' n) (hq' : Pm q' n) (hg : Pm g n) (e1 : ∀ x, x < n → ap p' (ap g x) = ap g (ap p x)) (e2 : ∀ x, x < n → ap q' (ap g x) = ap g (ap q x)) : Plain p' q' n ↔ Plain p q n := by
  constructor
  · intro h x hx
    have := h _ (hg.ap_lt hx)
    rw [trn_cj hp hq hp' hq' hg e1 e2 hx] at this
    exact hg.ap_inj (trn_lt hp hq hx) hx this
  · intro h y hy
    obtain ⟨x, hx, rfl⟩ := hg.ap_surj hy
    rw [trn_cj hp hq hp' hq' hg e1 e2 hx, h x hx]
theorem bandL_conj {p q p' q' g : List Nat} {n : Nat} (h : Sh p q n) (hp' : Pm p' n) (hq' : Pm q' n) (hg : Pm g n) (e1 : ∀ x, x < n → ap p' (ap g x) = ap g (ap p x)) (e2 : ∀ x, x < n → ap q' (ap g x) = ap g (ap q x)) : (bandL p' q' n).Perm (bandL p q n) := by
  have hp := h.hp
  have hq := h.hq
  have hpl := plain_cj hp hq hp' hq' hg e1 e2
  rw [bandL_m, bandL_m]
  by_cases hP : Plain p q n
  · rw [marks_plain hp hq hP, marks_plain hp' hq' (hpl.mpr hP)]
    have hb := (bk_pm hg).ap_lt h.pos
    refine (bl_conj (m := [ap (bk n g) 0]) hp hq hp' hq' hg e1 e2 fun x hx => ?_).trans (bl_plain h hP _ hb)
    rw [List.mem_singleton, List.mem_singleton]
    exact ⟨fun e => by rw [← e, bk_ap hg hx], fun e => by rw [e, ap_bk hg h.pos]⟩
  · refine bl_conj hp hq hp' hq' hg e1 e2 fun x hx => ?_
    rw [marks_mem hp hq hP, marks_mem hp' hq' (fun z => hP (hpl.mp z)), trn_cj hp hq hp' hq' hg e1 e2 hx]
    exact ⟨fun ⟨_, a⟩ => ⟨hx, fun e => a (by rw [e])⟩, fun ⟨_, a⟩ => ⟨hg.ap_lt hx, fun e => a (hg.ap_inj (trn_lt hp hq hx) hx e)⟩⟩
theorem bands_conj {p q p' q' g : List Nat} {n : Nat} (h : Sh p q n) (hp' : Pm p' n) (hq' : Pm q' n) (hg : Pm g n) (e1 : ∀ x, x < n → ap p' (ap g x) = ap g (ap p x)) (e2 : ∀ x, x < n → ap q' (ap g x) = ap g (ap q x)) : bandsS p' q' n = bandsS p q n := sort_perm (bandL_conj h hp' hq' hg e1 e2)
/-- the borders by the new numbers -/
theorem marks_conj {p q p' q' g : List Nat} {n : Nat} (h : Sh p q n) (hp' : Pm p' n) (hq' : Pm q' n) (hg : Pm g n) (e1 : ∀ x, x < n → ap p' (ap g x) = ap g (ap p x)) (e2 : ∀ x, x < n → ap q' (ap g x) = ap g (ap q x)) :
    (marksL p q n = [0] ∧ marksL p' q' n = [0]) ∨ marksL p' q' n = nsrt ((marksL p q n).map (ap g)) := by
  have hp := h.hp
  have hq := h.hq
  have hpl := plain_cj hp hq hp' hq' hg e1 e2
  by_cases hP : Plain p q n
  · exact .inl ⟨marks_plain hp hq hP, marks_plain hp' hq' (hpl.mpr hP)⟩
  · refine .inr ?_
    have nd : (marksL p q n).Nodup := List.nodup_iff_pairwise_ne.mpr ((marks_so hp hq).imp fun h => Nat.ne_of_lt h)
    have nd2 : (marksL p' q' n).Nodup := List.nodup_iff_pairwise_ne.mpr ((marks_so hp' hq').imp fun h => Nat.ne_of_lt h)
    have nd1 : ((marksL p q n).map (ap g)).Nodup := by
      rw [List.nodup_iff_pairwise_ne, List.pairwise_map]
      refine List.Pairwise.imp_of_mem (fun {x y} hx hy hne e => ?_) (List.nodup_iff_pairwise_ne.mp nd)
      exact hne (hg.ap_inj ((marks_mem hp hq hP x).mp hx).1 ((marks_mem hp hq hP y).mp hy).1 e)
    have pm : (marksL p' q' n).Perm (nsrt ((marksL p q n).map (ap g))) := by
      refine List.Perm.trans ?_ (nsrt_perm _).symm
      refine (List.perm_ext_iff_of_nodup nd2 nd1).mpr fun y => ?_
      rw [marks_mem hp' hq' (fun z => hP (hpl.mp z)), List.mem_map]
      constructor
      · intro ⟨hy, ht⟩
        obtain ⟨x, hx, rfl⟩ := hg.ap_surj hy
        refine ⟨x, (marks_mem hp hq hP x).mpr ⟨hx, fun e => ht ?_⟩, rfl⟩
        rw [trn_cj hp hq hp' hq' hg e1 e2 hx, e]
      · rintro ⟨x, hx, rfl⟩
        obtain ⟨hx, ht⟩ := (marks_mem hp hq hP x).mp hx
        refine ⟨hg.ap_lt hx, fun e => ht ?_⟩
        rw [trn_cj hp hq hp' hq' hg e1 e2 hx] at e
        exact hg.ap_inj (trn_lt hp hq hx) hx e
    exact List.Perm.eq_of_pairwise (le := (· ≤ ·)) (fun x y _ _ h1 h2 => Nat.le_antisymm h1 h2) ((marks_so hp' hq').imp fun h => Nat.le_of_lt h) (nsrt_le _) pm

/-! bands of sheets sheared and mirrored -/
/-- borders that all squares of a corner share -/
structure Gd (p q : List Nat) (n : Nat) (m : List Nat) : Prop where
  np : ∀ x, x < n → trn n p q x ≠ x → x ∈ m
  cl : ∀ x, x < n → (trn n p q x ∈ m ↔ x ∈ m)
theorem gd_marks {p q : List Nat} {n : Nat} (hp : Pm p n) (hq : Pm q n) : Gd p q n (marksL p q n) := by
  by_cases hP : Plain p q n
  · exact ⟨fun x hx h => absurd (hP x hx) h, fun x hx => by rw [hP x hx]⟩
  · refine ⟨fun x hx h => (marks_mem hp hq hP x).mpr ⟨hx, h⟩, fun x hx => ?_⟩
    rw [marks_mem hp hq hP, marks_mem hp hq hP]
    have hr := trn_pm hp hq
    have e : ∀ y, y < n → ap (rowOf n (trn n p q)) y = trn n p q y := fun y hy => ap_rowOf hy
    have l := trn_lt hp hq hx
    refine ⟨fun ⟨_, h⟩ => ⟨hx, fun z => h (by rw [z, z])⟩, fun ⟨_, h⟩ => ⟨l, fun z => h ?_⟩⟩
    exact hr.ap_inj l hx (by rw [e _ l, e _ hx]; exact z)
theorem trn_pq {p q : List Nat} {n x : Nat} (hp : Pm p n) (hq : Pm q n) (hx : x < n) : trn n p q (ap p (ap q x)) = ap q (ap p x) := by
  unfold trn
  rw [bk_ap hp (hq.ap_lt hx), bk_ap hq hx]
theorem Gd.pq {p q : List Nat} {n : Nat} {m : List Nat} (g : Gd p q n m) (hp : Pm p n) (hq : Pm q n) {x : Nat} (hx : x < n) : ap q (ap p x) ∈ m ↔ ap p (ap q x) ∈ m := by
  have := g.cl _ (hp.ap_lt (hq.ap_lt hx))
  rwa [trn_pq hp hq hx] at this
theorem Gd.comm {p q : List Nat} {n : Nat} {m : List Nat} (g : Gd p q n m) (hp : Pm p n) (hq : Pm q n) {x : Nat} (hx : x < n) (h : ap q (ap p x) ∉ m) : ap q (ap p x) = ap p (ap q x) := by
  refine Classical.byContradiction fun hne => h ((g.pq hp hq hx).mpr (g.np _ (hp.ap_lt (hq.ap_lt hx)) ?_))
  rw [trn_pq hp hq hx]
  exact hne
theorem comm_row {p q : List Nat} {n z : Nat} (hp : Pm p n) (hq : Pm q n) (hz : z < n) (h : ∀ k : Int, ap q (ap p (zt p n k z)) = ap p (ap q (zt p n k z))) : ∀ k : Int, ap q (zt p n k z) = zt p n k (ap q z) := by
  have hqz := hq.ap_lt hz
  have up : ∀ k : Nat, ap q (zt p n (k : Int) z) = zt p n (k : Int) (ap q z) := by
    intro k
    induction k with
    | zero => rfl
    | succ k ih => rw [show ((k + 1 : Nat) : Int) = (k : Int) + 1 by omega, zt_succ hp hz, h, ih, ← zt_succ hp hqz]
  have dn : ∀ k : Nat, ap q (zt p n (-(k : Int)) z) = zt p n (-(k : Int)) (ap q z) := by
    intro k
    induction k with
    | zero => rfl
    | succ k ih =>
      have e := h (-((k + 1 : Nat) : Int))
      rw [← zt_succ hp hz, show -((k + 1 : Nat) : Int) + 1 = -(k : Int) by omega, ih] at e
      rw [show -((k + 1 : Nat) : Int) = -(k : Int) - 1 by omega, zt_pred hp hqz, e, show -((k + 1 : Nat) : Int) = -(k : Int) - 1 by omega, bk_ap hp (hq.ap_lt (zt_lt hp hz _))]
  intro k
  rcases Int.le_total 0 k with t | t
  · have := up k.toNat
    rwa [Int.toNat_of_nonneg t] at this
  · have := dn (-k).toNat
    rwa [Int.toNat_of_nonneg (by omega), Int.neg_neg] at this
theorem IsB.comm {p q : List Nat} {n : Nat} {m : List Nat} {y : Nat} {b : Bn} (g : Gd p q n m) (hp : Pm p n) (hq : Pm q n) (hy : y < n) (hb : IsB p q n m y b) : ∀ j, j < b.wid → ∀ k : Int, it q j (zt p n k y) = zt p n k (it q j y)
  | 0, _, _ => rfl
  | j + 1, hj, k => by
    have ih := IsB.comm g hp hq hy hb j (by omega)
    have hz := it_lt hq hy j
    have h : ∀ k : Int, ap q (ap p (zt p n k (it q j y))) = ap p (ap q (zt p n k (it q j y))) := fun k => g.comm hp hq (zt_lt hp hz k) (by
      rw [← zt_succ hp hz, ← ih]
      exact hb.low (j + 1) (by omega) hj (k + 1))
    show ap q (it q j (zt p n k y)) = zt p n k (ap q (it q j y))
    rw [ih]
    exact comm_row hp hq hz h k
theorem zt_congr {p : List Nat} {n y : Nat} (hp : Pm p n) (hy : y < n) {a b : Int} (h : a % (ordr p n y : Nat) = b % (ordr p n y : Nat)) : zt p n a y = zt p n b y := by
  rw [(zt_round hp hy a).1, (zt_round hp hy b).1, h]
/-- shifts led on: s times a shift and c times the width -/
def shF (s c : Int) (b : Bn) : Bn := ⟨b.len, b.wid, (List.range b.len).filter fun t => b.sh.any fun u : Nat => decide ((s * (u : Int) + c * (b.wid : Nat)) % (b.len : Nat) = (t : Int))⟩
theorem shF_mem {s c : Int} (b : Bn) (t : Nat) : t ∈ (shF s c b).sh ↔ t < b.len ∧ ∃ u ∈ b.sh, (s * ((u : Nat) : Int) + c * (b.wid : Nat)) % (b.len : Nat) = (t : Int) := by
  unfold shF
  rw [List.mem_filter, List.mem_range, List.any_eq_true]
  refine and_congr_right fun _ => exists_congr fun u => and_congr_right fun _ => ?_
  rw [decide_eq_true_iff]
theorem shF_so (s c : Int) (b : Bn) : (shF s c b).sh.Pairwise (· < ·) := List.Pairwise.filter _ List.pairwise_lt_range
theorem emod_shift (a b L : Int) (k : Int) (h : a = b + L * k) : a % L = b % L := by
  rw [h, Int.add_mul_emod_self_left]
theorem shF_is {p q : List Nat} {n : Nat} {m : List Nat} {y : Nat} {b : Bn} (hp : Pm p n) (hy : y < n) (hb : IsB p q n m y b) {s c : Int} (hs : s * s = 1) (t : Nat) :
    t ∈ (shF s c b).sh ↔ t < b.len ∧ ∃ k : Int, zt p n k y ∈ m ∧ it q b.wid (zt p n (k + s * (t - c * b.wid)) y) ∈ m := by
  have hL : 0 < b.len := by
    rw [hb.len]
    exact (ordr_spec hp hy).1
  have hLz : (0 : Int) < (b.len : Nat) := by omega
  have el := hb.len
  rw [shF_mem]
  refine and_congr_right fun ht => ?_
  constructor
  · intro ⟨u, hu, e⟩
    obtain ⟨_, k, h1, h2⟩ := (hb.sh u).mp hu
    refine ⟨k, h1, ?_⟩
    have : zt p n (k + s * (t - c * b.wid)) y = zt p n (k + u) y := by
      refine zt_congr hp hy ?_
      rw [← el]
      have e2 := Int.emod_add_mul_ediv (s * (u : Int) + c * (b.wid : Nat)) (b.len : Nat)
      rw [e] at e2
      generalize (s * (u : Int) + c * (b.wid : Nat)) / (b.len : Nat) = d at e2
      refine emod_shift _ _ _ (-(s * d)) ?_
      have e3 : (t : Int) - c * b.wid = s * u - (b.len : Nat) * d := by omega
      rw [e3, Int.mul_sub, ← Int.mul_assoc, hs, Int.one_mul, Int.mul_neg, show s * ((b.len : Nat) * d) = (b.len : Nat) * (s * d) by rw [← Int.mul_assoc, Int.mul_comm s, Int.mul_assoc]]
      omega
    rw [this]
    exact h2
  · intro ⟨k, h1, h2⟩
    have m0 := Int.emod_nonneg (s * ((t : Int) - c * b.wid)) (b := (b.len : Nat)) (by omega)
    have m1 := Int.emod_lt_of_pos (s * ((t : Int) - c * b.wid)) hLz
    have e2 := Int.emod_add_mul_ediv (s * ((t : Int) - c * b.wid)) (b.len : Nat)
    obtain ⟨u, hu⟩ := Int.eq_ofNat_of_zero_le m0
    rw [hu] at e2 m1
    generalize s * ((t : Int) - c * b.wid) / (b.len : Nat) = d at e2
    refine ⟨u, (hb.sh u).mpr ⟨by omega, k, h1, ?_⟩, ?_⟩
    · have : zt p n (k + u) y = zt p n (k + s * (t - c * b.wid)) y := by
        refine zt_congr hp hy ?_
        rw [← el]
        refine emod_shift _ _ _ (-d) ?_
        rw [Int.mul_neg]
        omega
      rw [this]
      exact h2
    · have e3 : s * (u : Int) + c * b.wid = t + (b.len : Nat) * (-(s * d)) := by
        have : (u : Int) = s * (t - c * b.wid) - (b.len : Nat) * d := by omega
        rw [this, Int.mul_sub, ← Int.mul_assoc, hs, Int.one_mul, Int.mul_neg, show s * ((b.len : Nat) * d) = (b.len : Nat) * (s * d) by rw [← Int.mul_assoc, Int.mul_comm s, Int.mul_assoc]]
        omega
      rw [e3, Int.add_mul_emod_self_left]
      exact Int.emod_eq_of_lt (by omega) (by omega)
/-! sheared -/
theorem shear_it {p q q' : List Nat} {n : Nat} {m : List Nat} {y : Nat} {b : Bn} {c : Int} (g : Gd p q n m) (hp : Pm p n) (hq : Pm q n) (hy : y < n) (hb : IsB p q n m y b) (e : ∀ x, x < n → ap q' x = ap q (zt p n (-c) x)) : ∀ j, j ≤ b.wid → ∀ k : Int, it q' j (zt p n k y) = it q j (zt p n (k - c * j) y)
  | 0, _, k => by
    show zt p n k y = zt p n (k - c * ((0 : Nat) : Int)) y
    congr 1
    simp
  | j + 1, hj, k => by
    have ih := shear_it g hp hq hy hb e j (by omega) k
    have cm := hb.comm g hp hq hy j (by omega)
    have hz := it_lt hq hy j
    show ap q' (it q' j (zt p n k y)) = ap q (it q j (zt p n (k - c * ((j + 1 : Nat) : Int)) y))
    rw [ih, cm, cm, e _ (zt_lt hp hz _), ← zt_add hp hz]
    congr 2
    rw [Int.natCast_add, Int.mul_add]
    simp
    omega
theorem shear_isB {p q q' : List Nat} {n : Nat} {m : List Nat} {y : Nat} {b : Bn} {c : Int} (g : Gd p q n m) (hp : Pm p n) (hq : Pm q n) (hy : y < n) (hb : IsB p q n m y b) (e : ∀ x, x < n → ap q' x = ap q (zt p n (-c) x)) : IsB p q' n m y (shF 1 c b) := by
  have si := shear_it g hp hq hy hb e
  refine ⟨hb.len, hb.w0, ?_, fun j h0 h1 k => ?_, fun t => ?_, shF_so _ _ _⟩
  · obtain ⟨k, hk⟩ := hb.up
    refine ⟨k + c * b.wid, ?_⟩
    show it q' b.wid _ ∈ m
    rw [si _ (Nat.le_refl _), Int.add_sub_cancel]
    exact hk
  · rw [si j (Nat.le_of_lt h1)]
    exact hb.low j h0 h1 _
  · rw [shF_is hp hy hb (by decide)]
    refine and_congr_right fun _ => exists_congr fun k => and_congr_right fun _ => ?_
    show _ ↔ it q' b.wid _ ∈ m
    rw [si _ (Nat.le_refl _), Int.one_mul, show k + ((t : Int) - c * b.wid) = k + t - c * b.wid by omega]
theorem shear_bk {p q q' : List Nat} {n : Nat} {c : Int} (hp : Pm p n) (hq : Pm q n) (hq' : Pm q' n) (e : ∀ x, x < n → ap q' x = ap q (zt p n (-c) x)) {z : Nat} (hz : z < n) : ap (bk n q') z = zt p n c (ap (bk n q) z) := by
  have hb := (bk_pm hq).ap_lt hz
  have h1 : ap q' (zt p n c (ap (bk n q) z)) = z := by
    rw [e _ (zt_lt hp hb c), ← zt_add hp hb, Int.add_left_neg, zt_zero, ap_bk hq hz]
  have h2 := bk_ap hq' (zt_lt hp hb c)
  rwa [h1] at h2
theorem shear_trn {p q q' : List Nat} {n : Nat} {c : Int} (hp : Pm p n) (hq : Pm q n) (hq' : Pm q' n) (e : ∀ x, x < n → ap q' x = ap q (zt p n (-c) x)) : rowOf n (trn n p q') = rowOf n (trn n p q) :=
  row_ext (m := n) (by simp) (by simp) fun x hx => by
    rw [ap_rowOf hx, ap_rowOf hx]
    have l1 := (bk_pm hp).ap_lt hx
    have l2 := (bk_pm hq).ap_lt l1
    unfold trn
    rw [shear_bk hp hq hq' e l1, e _ (hp.ap_lt (zt_lt hp l2 c)), ← zt_succ hp l2, ← zt_add hp l2, show -c + (c + 1) = 1 by omega, zt_one]
theorem shear_marks {p q q' : List Nat} {n : Nat} {c : Int} (hp : Pm p n) (hq : Pm q n) (hq' : Pm q' n) (e : ∀ x, x < n → ap q' x = ap q (zt p n (-c) x)) : marksL p q' n = marksL p q n := by
  unfold marksL
  rw [shear_trn hp hq hq' e]
theorem shear_unshear {p q q' : List Nat} {n : Nat} {c : Int} (hp : Pm p n) (e : ∀ x, x < n → ap q' x = ap q (zt p n (-c) x)) : ∀ x, x < n → ap q x = ap q' (zt p n (-(-c)) x) := fun x hx => by
  rw [Int.neg_neg, e _ (zt_lt hp hx c), ← zt_add hp hx, Int.add_left_neg, zt_zero]
theorem bandL_shear {p q q' : List Nat} {n : Nat} {c : Int} (hp : Pm p n) (hq : Pm q n) (hq' : Pm q' n) (e : ∀ x, x < n → ap q' x = ap q (zt p n (-c) x)) : (bandL p q' n).Perm ((bandL p q n).map (shF 1 c)) := by
  rw [bandL_m, bandL_m, shear_marks hp hq hq' e]
  have g := gd_marks hp hq
  exact bl_perm (shF 1 c) (fun _ => rfl) hp hq hp hq' id id (fun y hy hM => ⟨hy, hM, fun b hb => shear_isB g hp hq hy hb e⟩) (fun _ _ _ _ _ _ e => e) (fun y hy hM => ⟨hy, hM, fun b hb => shear_isB g hp hq hy hb e⟩) (fun _ _ _ _ _ _ e => e)
/-! mirrored across -/
theorem mirA_isB {p q : List Nat} {n : Nat} {m m' : List Nat} {y : Nat} {b : Bn} (g : Gd p q n m) (hp : Pm p n) (hq : Pm q n) (hm : ∀ x, x < n → (x ∈ m' ↔ ap p x ∈ m)) (hy : y < n) (hb : IsB p q n m y b) : IsB (bk n p) q n m' y (shF (-1) 0 b) := by
  have key : ∀ j, j ≤ b.wid → ∀ k : Int, (it q j (zt (bk n p) n k y) ∈ m' ↔ it q j (zt p n (1 - k) y) ∈ m) := fun j hj k => by
    rw [zt_bk hp hy, hm _ (it_lt hq (zt_lt hp hy _) j)]
    by_cases h : j < b.wid
    · have cm := hb.comm g hp hq hy j h
      rw [cm, cm, ← zt_succ hp (it_lt hq hy j), show -k + 1 = 1 - k by omega]
    · obtain ⟨i, rfl⟩ : ∃ i, j = i + 1 := ⟨j - 1, by have := hb.w0; omega⟩
      have cm := hb.comm g hp hq hy i (by omega)
      show ap p (ap q (it q i _)) ∈ m ↔ ap q (it q i _) ∈ m
      have hu := it_lt hq (zt_lt hp hy (-k)) i
      rw [← g.pq hp hq hu, cm, cm, ← zt_succ hp (it_lt hq hy i), show -k + 1 = 1 - k by omega]
  refine ⟨by rw [ordr_bk hp hy]; exact hb.len, hb.w0, ?_, fun j h0 h1 k => ?_, fun t => ?_, shF_so _ _ _⟩
  · obtain ⟨k, hk⟩ := hb.up
    exact ⟨1 - k, (key _ (Nat.le_refl _) _).mpr (by rw [show 1 - (1 - k) = k by omega]; exact hk)⟩
  · rw [key j (Nat.le_of_lt h1)]
    exact hb.low j h0 h1 _
  · rw [shF_is hp hy hb (by decide)]
    refine and_congr_right fun _ => ?_
    have k0 := key 0 (Nat.zero_le _)
    have kw := key b.wid (Nat.le_refl _)
    constructor
    · intro ⟨k, h1, h2⟩
      refine ⟨1 - k, (k0 (1 - k)).mpr ?_, (kw _).mpr ?_⟩
      · rw [show 1 - (1 - k) = k by omega]
        exact h1
      · rw [show 1 - (1 - k + (t : Int)) = k + -1 * (t - 0 * b.wid) by omega]
        exact h2
    · intro ⟨k, h1, h2⟩
      refine ⟨1 - k, (k0 k).mp h1, ?_⟩
      have := (kw _).mp h2
      rwa [show 1 - (k + (t : Int)) = 1 - k + -1 * (t - 0 * b.wid) by omega] at this
theorem mirA_trn {p q : List Nat} {n x : Nat} (hp : Pm p n) (hq : Pm q n) (hx : x < n) : trn n (bk n p) q x = x ↔ trn n p q (ap p x) = ap p x := by
  have hpx := hp.ap_lt hx
  have hb := bk_pm hp
  have hbq := bk_pm hq
  unfold trn
  rw [bk_bk hp, bk_ap hp hx]
  constructor
  · intro h
    have h1 : ap q (ap (bk n p) (ap (bk n q) (ap p x))) = x := h
    have h2 : ap (bk n p) (ap (bk n q) (ap p x)) = ap (bk n q) x := by
      have := bk_ap hq (hb.ap_lt (hbq.ap_lt hpx))
      rw [h1] at this
      exact this.symm
    have h3 : ap (bk n q) (ap p x) = ap p (ap (bk n q) x) := by
      have := ap_bk hp (hbq.ap_lt hpx)
      rw [h2] at this
      exact this.symm
    rw [← h3, ap_bk hq hpx]
  · intro h
    have h1 : ap p (ap (bk n q) x) = ap (bk n q) (ap p x) := by
      have := bk_ap hq (hp.ap_lt (hbq.ap_lt hx))
      rw [h] at this
      exact this.symm
    rw [← h1, bk_ap hp (hbq.ap_lt hx), ap_bk hq hx]
theorem bandL_mirA {p q : List Nat} {n : Nat} (h : Sh p q n) : (bandL (bk n p) q n).Perm ((bandL p q n).map (shF (-1) 0)) := by
  have hp := h.hp
  have hq := h.hq
  have hb := bk_pm hp
  have g := gd_marks hp hq
  have go : ∀ m' : List Nat, (∀ x, x < n → (x ∈ m' ↔ ap p x ∈ marksL p q n)) → (bandLm (bk n p) q n m').Perm ((bandLm p q n (marksL p q n)).map (shF (-1) 0)) := fun m' hm => by
    have mk : ∀ y, y < n → (Mk (bk n p) n m' y ↔ Mk p n (marksL p q n) y) := fun y hy => by
      have z : ∀ k : Int, zt (bk n p) n k y ∈ m' ↔ zt p n (1 - k) y ∈ marksL p q n := fun k => by
        rw [zt_bk hp hy, hm _ (zt_lt hp hy _), ← zt_succ hp hy, show -k + 1 = 1 - k by omega]
      exact ⟨fun ⟨k, hk⟩ => ⟨1 - k, (z k).mp hk⟩, fun ⟨k, hk⟩ => ⟨1 - k, (z _).mpr (by rw [show 1 - (1 - k) = k by omega]; exact hk)⟩⟩
    exact bl_perm (shF (-1) 0) (fun _ => rfl) hp hq hb hq id id (fun y hy hM => ⟨hy, (mk y hy).mpr hM, fun b hb => mirA_isB g hp hq hm hy hb⟩) (fun _ _ _ _ _ _ e => e) (fun y hy hM => ⟨hy, (mk y hy).mp hM, fun b hb => mirA_isB g hp hq hm hy hb⟩) (fun _ _ _ _ _ _ e => e)
  rw [bandL_m, bandL_m]
  have hPl : Plain (bk n p) q n ↔ Plain p q n := by
    constructor
    · intro hP y hy
      obtain ⟨x, hx, rfl⟩ := hp.ap_surj hy
      exact (mirA_trn hp hq hx).mp (hP x hx)
    · intro hP x hx
      exact (mirA_trn hp hq hx).mpr (hP _ (hp.ap_lt hx))
  by_cases hP : Plain p q n
  · have hP' := hPl.mpr hP
    rw [marks_plain hb hq hP']
    refine (bl_plain (sh_bkr h) hP' _ (hb.ap_lt h.pos)).symm.trans (go [ap (bk n p) 0] fun x hx => ?_)
    rw [marks_plain hp hq hP, List.mem_singleton, List.mem_singleton]
    exact ⟨fun e => by rw [e, ap_bk hp h.pos], fun e => by rw [← e, bk_ap hp hx]⟩
  · refine go _ fun x hx => ?_
    rw [marks_mem hb hq (fun z => hP (hPl.mp z)), marks_mem hp hq hP]
    exact ⟨fun ⟨_, a⟩ => ⟨hp.ap_lt hx, fun e => a ((mirA_trn hp hq hx).mpr e)⟩, fun ⟨_, a⟩ => ⟨hx, fun e => a ((mirA_trn hp hq hx).mp e)⟩⟩
/-! mirrored up -/
theorem bk_sub {q : List Nat} {n v : Nat} (hq : Pm q n) (hv : v < n) (i j : Nat) : it (bk n q) j (it q (j + i) v) = it q i v := by
  rw [it_add]
  have := it_bk (bk_pm hq) (it_lt hq hv i) j
  rwa [bk_bk hq] at this
theorem mirU_key {p q : List Nat} {n : Nat} {m m' : List Nat} {y : Nat} {b : Bn} (g : Gd p q n m) (hp : Pm p n) (hq : Pm q n) (hm : ∀ x, x < n → (x ∈ m' ↔ ap q x ∈ m)) (hy : y < n) (hb : IsB p q n m y b) : ∀ j, j ≤ b.wid → ∀ k : Int, (it (bk n q) j (zt p n k (it q (b.wid - 1) y)) ∈ m' ↔ it q (b.wid - j) (zt p n k y) ∈ m) := fun j hj k => by
  have w0 := hb.w0
  have hk := zt_lt hp hy k
  rw [← hb.comm g hp hq hy (b.wid - 1) (by omega)]
  by_cases h : j < b.wid
  · have e : b.wid - 1 = j + (b.wid - 1 - j) := by omega
    have e2 : b.wid - j = (b.wid - 1 - j) + 1 := by omega
    rw [e, bk_sub hq hk, hm _ (it_lt hq hk _), e2]
    rfl
  · have hj' : j = (b.wid - 1) + 1 := by omega
    have e := bk_sub hq hk 0 (b.wid - 1)
    rw [Nat.add_zero] at e
    have ew : b.wid - j = 0 := by omega
    rw [ew, hj']
    show ap (bk n q) (it (bk n q) (b.wid - 1) (it q (b.wid - 1) (zt p n k y))) ∈ m' ↔ _
    rw [e]
    show ap (bk n q) (zt p n k y) ∈ m' ↔ zt p n k y ∈ m
    rw [hm _ ((bk_pm hq).ap_lt hk), ap_bk hq hk]
theorem mirU_isB {p q : List Nat} {n : Nat} {m m' : List Nat} {y : Nat} {b : Bn} (g : Gd p q n m) (hp : Pm p n) (hq : Pm q n) (hm : ∀ x, x < n → (x ∈ m' ↔ ap q x ∈ m)) (hy : y < n) (hM : Mk p n m y) (hb : IsB p q n m y b) : IsB p (bk n q) n m' (it q (b.wid - 1) y) (shF (-1) 0 b) := by
  have w0 := hb.w0
  have key := mirU_key g hp hq hm hy hb
  have hz := it_lt hq hy (b.wid - 1)
  have cm := hb.comm g hp hq hy (b.wid - 1) (by omega)
  refine ⟨?_, hb.w0, ?_, fun j h0 h1 k => ?_, fun t => ?_, shF_so _ _ _⟩
  · obtain ⟨a, _, c, d⟩ := ordr_spec hp hy
    show b.len = _
    rw [hb.len]
    refine (ordr_of hp hz a ?_ fun j h1 h2 e => d j h1 h2 ?_).symm
    · have := cm (ordr p n y : Nat)
      rw [zt_nat, zt_nat, c] at this
      exact this.symm
    · have := cm (j : Nat)
      rw [zt_nat, zt_nat, e] at this
      exact it_inj hq (it_lt hp hy j) hy _ this
  · obtain ⟨k, hk⟩ := hM
    refine ⟨k, (key _ (Nat.le_refl _) k).mpr ?_⟩
    rw [Nat.sub_self]
    exact hk
  · show it (bk n q) j _ ∉ m'
    rw [key j (Nat.le_of_lt h1)]
    exact hb.low (b.wid - j) (by have : j < b.wid := h1; omega) (by omega) k
  · rw [shF_is hp hy hb (by decide)]
    refine and_congr_right fun _ => ?_
    have k0 := key 0 (Nat.zero_le _)
    have kw := key b.wid (Nat.le_refl _)
    rw [Nat.sub_self] at kw
    constructor
    · intro ⟨k, h1, h2⟩
      refine ⟨k - t, (k0 _).mpr ?_, (kw _).mpr ?_⟩
      · rw [show k - (t : Int) = k + -1 * (t - 0 * b.wid) by omega]
        exact h2
      · rw [Int.sub_add_cancel]
        exact h1
    · intro ⟨k, h1, h2⟩
      refine ⟨k + t, (kw _).mp h2, ?_⟩
      have := (k0 k).mp h1
      rwa [show k = k + (t : Int) + -1 * (t - 0 * b.wid) by omega] at this
theorem mirU_mk {p q : List Nat} {n : Nat} {m m' : List Nat} {y : Nat} {b : Bn} (g : Gd p q n m) (hp : Pm p n) (hq : Pm q n) (hm : ∀ x, x < n → (x ∈ m' ↔ ap q x ∈ m)) (hy : y < n) (hb : IsB p q n m y b) : Mk p n m' (it q (b.wid - 1) y) := by
  obtain ⟨k, hk⟩ := hb.up
  exact ⟨k, (mirU_key g hp hq hm hy hb 0 (Nat.zero_le _) k).mpr hk⟩
theorem mirU_trn {p q : List Nat} {n x : Nat} (hp : Pm p n) (hq : Pm q n) (hx : x < n) : trn n p (bk n q) x = x ↔ trn n p q (ap q x) = ap q x := by
  have hb := bk_pm hp
  have hbq := bk_pm hq
  have hu := hb.ap_lt hx
  have e1 : trn n p (bk n q) x = x ↔ ap p (ap q (ap (bk n p) x)) = ap q x := by
    unfold trn
    rw [bk_bk hq]
    constructor
    · intro h
      have := ap_bk hq (hp.ap_lt (hq.ap_lt hu))
      rw [h] at this
      exact this.symm
    · intro h
      rw [h, bk_ap hq hx]
  have e2 : trn n p q (ap q x) = ap q x ↔ ap p (ap q (ap (bk n p) x)) = ap q x := by
    have hqx := hq.ap_lt hx
    have hr := trn_pm hp hq
    have t1 := trn_pq hp hq hu
    rw [ap_bk hp hx] at t1
    have a : ∀ y, y < n → ap (rowOf n (trn n p q)) y = trn n p q y := fun y hy => ap_rowOf hy
    have hl := hp.ap_lt (hq.ap_lt hu)
    constructor
    · intro h
      exact hr.ap_inj hl hqx (by rw [a _ hl, a _ hqx, t1, h])
    · intro h
      rw [← h, t1, h]
  rw [e1, e2]
theorem shF_inv {b : Bn} (hlt : ∀ t ∈ b.sh, t < b.len) (hso : b.sh.Pairwise (· < ·)) : shF (-1) 0 (shF (-1) 0 b) = b := by
  have e : (shF (-1) 0 (shF (-1) 0 b)).sh = b.sh := by
    refine sorted_ext (shF_so _ _ _) hso fun t => ?_
    rw [shF_mem]
    have L1 : (shF (-1) 0 b).len = b.len := rfl
    have L2 : (shF (-1) 0 b).wid = b.wid := rfl
    rw [L1, L2]
    have inv : ∀ u : Nat, u < b.len → ∀ v : Nat, v < b.len → ((-1 * (u : Int) + 0 * (b.wid : Nat)) % (b.len : Nat) = (v : Int) ↔ (-1 * (v : Int) + 0 * (b.wid : Nat)) % (b.len : Nat) = (u : Int)) := fun u hu v hv => by
      have f : ∀ u v : Nat, u < b.len → v < b.len → (-1 * (u : Int) + 0 * (b.wid : Nat)) % (b.len : Nat) = (v : Int) → (-1 * (v : Int) + 0 * (b.wid : Nat)) % (b.len : Nat) = (u : Int) := fun u v hu hv h => by
        have e2 := Int.emod_add_mul_ediv (-1 * (u : Int) + 0 * (b.wid : Nat)) (b.len : Nat)
        rw [h] at e2
        generalize (-1 * (u : Int) + 0 * (b.wid : Nat)) / (b.len : Nat) = d at e2
        have : -1 * (v : Int) + 0 * (b.wid : Nat) = u + (b.len : Nat) * d := by omega
        rw [this, Int.add_mul_emod_self_left]
        exact Int.emod_eq_of_lt (by omega) (by omega)
      exact ⟨f u v hu hv, f v u hv hu⟩
    constructor
    · intro ⟨ht, u, hu, h⟩
      obtain ⟨hul, v, hv, h2⟩ := (shF_mem b u).mp hu
      have h3 := (inv v (hlt v hv) u hul).mp h2
      rw [h] at h3
      have : v = t := by omega
      rw [← this]
      exact hv
    · intro ht
      have htl := hlt t ht
      have m0 := Int.emod_nonneg (-1 * (t : Int) + 0 * (b.wid : Nat)) (b := (b.len : Nat)) (by omega)
      have m1 := Int.emod_lt_of_pos (-1 * (t : Int) + 0 * (b.wid : Nat)) (b := (b.len : Nat)) (by omega)
      obtain ⟨u, hu⟩ := Int.eq_ofNat_of_zero_le m0
      rw [hu] at m1
      exact ⟨htl, u, (shF_mem b u).mpr ⟨by omega, t, ht, hu⟩, (inv t htl u (by omega)).mp hu⟩
  cases b with
  | mk l w s =>
    have : shF (-1) 0 (shF (-1) 0 ⟨l, w, s⟩) = ⟨l, w, (shF (-1) 0 (shF (-1) 0 ⟨l, w, s⟩)).sh⟩ := rfl
    rw [this, e]
theorem IsB.inv {p q : List Nat} {n : Nat} {m : List Nat} {y : Nat} {b : Bn} (hb : IsB p q n m y b) : shF (-1) 0 (shF (-1) 0 b) = b := shF_inv (fun t ht => ((hb.sh t).mp ht).1) hb.so
theorem mirU_inj {p q : List Nat} {n : Nat} {m : List Nat} {y z : Nat} {b c : Bn} (g : Gd p q n m) (hp : Pm p n) (hq : Pm q n) (hy : y < n) (hz : z < n) (hMy : Mk p n m y) (hMz : Mk p n m z) (hb : IsB p q n m y b) (hc : IsB p q n m z c) (e : it q (b.wid - 1) y = it q (c.wid - 1) z) : y = z := by
  have b0 := hb.w0
  have c0 := hc.w0
  have no : ∀ {y z : Nat} {b c : Bn}, y < n → z < n → Mk p n m y → IsB p q n m z c → IsB p q n m y b → b.wid < c.wid → it q (b.wid - 1) y = it q (c.wid - 1) z → False := fun {y z b c} hy hz hM hc hb h e => by
    have b0 := hb.w0
    rw [show c.wid - 1 = (b.wid - 1) + (c.wid - b.wid) by omega, it_add] at e
    have e := it_inj hq hy (it_lt hq hz _) _ e
    obtain ⟨k, hk⟩ := hM
    rw [e, ← hc.comm g hp hq hz _ (by omega)] at hk
    exact hc.low _ (by omega) (by omega) k hk
  rcases Nat.lt_trichotomy b.wid c.wid with h | h | h
  · exact (no hy hz hMy hc hb h e).elim
  · rw [h] at e
    exact it_inj hq hy hz _ e
  · exact (no hz hy hMz hb hc h e.symm).elim
theorem bandL_mirU {p q : List Nat} {n : Nat} (h : Sh p q n) : (bandL p (bk n q) n).Perm ((bandL p q n).map (shF (-1) 0)) := by
  have hp := h.hp
  have hq := h.hq
  have hbq := bk_pm hq
  have g := gd_marks hp hq
  have go : ∀ m' : List Nat, Gd p (bk n q) n m' → (∀ x, x < n → (x ∈ m' ↔ ap q x ∈ marksL p q n)) → (bandLm p (bk n q) n m').Perm ((bandLm p q n (marksL p q n)).map (shF (-1) 0)) := fun m' g' hm => by
    have hm2 : ∀ x, x < n → (x ∈ marksL p q n ↔ ap (bk n q) x ∈ m') := fun x hx => by
      rw [hm _ (hbq.ap_lt hx), ap_bk hq hx]
    have fw : ∀ y, y < n → Mk p n (marksL p q n) y → it q ((bandOf q (cyc p n y) (marksL p q n) n).wid - 1) y < n ∧ Mk p n m' (it q ((bandOf q (cyc p n y) (marksL p q n) n).wid - 1) y) ∧ ∀ b, IsB p q n (marksL p q n) y b → IsB p (bk n q) n m' (it q ((bandOf q (cyc p n y) (marksL p q n) n).wid - 1) y) (shF (-1) 0 b) := fun y hy hM => by
      have hb := isB_of hp hq hy hM
      refine ⟨it_lt hq hy _, mirU_mk g hp hq hm hy hb, fun b hb' => ?_⟩
      rw [hb'.uniq hb]
      exact mirU_isB g hp hq hm hy hM hb
    have bw : ∀ y, y < n → Mk p n m' y → it (bk n q) ((bandOf (bk n q) (cyc p n y) m' n).wid - 1) y < n ∧ Mk p n (marksL p q n) (it (bk n q) ((bandOf (bk n q) (cyc p n y) m' n).wid - 1) y) ∧ ∀ b, IsB p q n (marksL p q n) (it (bk n q) ((bandOf (bk n q) (cyc p n y) m' n).wid - 1) y) b → IsB p (bk n q) n m' y (shF (-1) 0 b) := fun y hy hM => by
      have hb := isB_of hp hbq hy hM
      have hi := mirU_isB g' hp hbq hm2 hy hM hb
      rw [bk_bk hq] at hi
      refine ⟨it_lt hbq hy _, mirU_mk g' hp hbq hm2 hy hb, fun b hb' => ?_⟩
      rw [hb'.uniq hi, hb.inv]
      exact hb
    exact bl_perm (shF (-1) 0) (fun _ => rfl) hp hq hp hbq _ _ fw (fun x y hx hy h1 h2 e => mirU_inj g hp hq hx hy h1 h2 (isB_of hp hq hx h1) (isB_of hp hq hy h2) e) bw (fun x y hx hy h1 h2 e => mirU_inj g' hp hbq hx hy h1 h2 (isB_of hp hbq hx h1) (isB_of hp hbq hy h2) e)
  rw [bandL_m, bandL_m]
  have hPl : Plain p (bk n q) n ↔ Plain p q n := by
    constructor
    · intro hP y hy
      obtain ⟨x, hx, rfl⟩ := hq.ap_surj hy
      exact (mirU_trn hp hq hx).mp (hP x hx)
    · intro hP x hx
      exact (mirU_trn hp hq hx).mpr (hP _ (hq.ap_lt hx))
  by_cases hP : Plain p q n
  · have hP' := hPl.mpr hP
    rw [marks_plain hp hbq hP']
    have sh' : Sh p (bk n q) n := sh_swap (sh_bkr (sh_swap h))
    refine (bl_plain sh' hP' _ (hbq.ap_lt h.pos)).symm.trans (go [ap (bk n q) 0] ⟨fun x hx z => absurd (hP' x hx) z, fun x hx => by rw [hP' x hx]⟩ fun x hx => ?_)
    rw [marks_plain hp hq hP, List.mem_singleton, List.mem_singleton]
    exact ⟨fun e => by rw [e, ap_bk hq h.pos], fun e => by rw [← e, bk_ap hq hx]⟩
  · refine go _ (gd_marks hp hbq) fun x hx => ?_
    rw [marks_mem hp hbq (fun z => hP (hPl.mp z)), marks_mem hp hq hP]
    exact ⟨fun ⟨_, a⟩ => ⟨hq.ap_lt hx, fun e => a ((mirU_trn hp hq hx).mpr e)⟩, fun ⟨_, a⟩ => ⟨hx, fun e => a ((mirU_trn hp hq hx).mp e)⟩⟩
theorem bandL_mem {p q : List Nat} {n : Nat} {m : List Nat} (hp : Pm p n) (hq : Pm q n) {b : Bn} (h : b ∈ bandLm p q n m) : ∃ y, y < n ∧ Mk p n m y ∧ IsB p q n m y b := by
  obtain ⟨row, hr, rfl⟩ := List.mem_map.mp h
  obtain ⟨hr, hm⟩ := List.mem_filter.mp hr
  obtain ⟨y, hy, rfl⟩ := List.mem_map.mp hr
  have hyn := reps_lt hy
  have hM := (hasM_cyc hp hyn).mp hm
  exact ⟨y, hyn, hM, isB_of hp hq hyn hM⟩
theorem bandL_half {p q : List Nat} {n : Nat} (h : Sh p q n) : (bandL (bk n p) (bk n q) n).Perm (bandL p q n) := by
  have h1 := bandL_mirU (sh_bkr h)
  have h2 := (bandL_mirA h).map (shF (-1) 0)
  refine (h1.trans h2).trans (List.Perm.of_eq ?_)
  rw [List.map_map]
  refine (List.map_congr_left fun b hb => ?_).trans (List.map_id _)
  obtain ⟨y, _, _, hi⟩ := bandL_mem h.hp h.hq (show b ∈ bandLm p q n (marksL p q n) from hb)
  exact hi.inv

/-! the bands cover the sheet -/
theorem least_nat {P : Nat → Prop} (h : ∃ i, P i) : ∃ i, P i ∧ ∀ j, j < i → ¬ P j := by
  obtain ⟨i, hi⟩ := h
  induction i using Nat.strongRecOn with
  | ind i ih =>
    by_cases e : ∃ j, j < i ∧ P j
    · obtain ⟨j, h1, h2⟩ := e
      exact ih j h1 h2
    · exact ⟨i, hi, fun j hj hp => e ⟨j, hj, hp⟩⟩
theorem row_up {p q : List Nat} {n : Nat} {m : List Nat} {z : Nat} (g : Gd p q n m) (hp : Pm p n) (hq : Pm q n) (hz : z < n) (hu : ∀ k : Int, zt p n k (ap q z) ∉ m) : ∀ k : Int, ap q (zt p n k z) = zt p n k (ap q z) := by
  have hqz := hq.ap_lt hz
  have up : ∀ k : Nat, ap q (zt p n (k : Int) z) = zt p n (k : Int) (ap q z) := by
    intro k
    induction k with
    | zero => rfl
    | succ k ih =>
      have hv := zt_lt hp hz (k : Int)
      have e : ap p (ap q (zt p n (k : Int) z)) = zt p n ((k : Int) + 1) (ap q z) := by rw [ih, zt_succ hp hqz]
      have hn : ap q (ap p (zt p n (k : Int) z)) ∉ m := fun h => by
        have := (g.pq hp hq hv).mp h
        rw [e] at this
        exact hu _ this
      rw [show ((k + 1 : Nat) : Int) = (k : Int) + 1 by omega, zt_succ hp hz, g.comm hp hq hv hn, e]
  have dn : ∀ k : Nat, ap q (zt p n (-(k : Int)) z) = zt p n (-(k : Int)) (ap q z) := by
    intro k
    induction k with
    | zero => rfl
    | succ k ih =>
      have hv := zt_lt hp hz (-((k + 1 : Nat) : Int))
      have e0 : ap p (zt p n (-((k + 1 : Nat) : Int)) z) = zt p n (-(k : Int)) z := by
        rw [← zt_succ hp hz, show -((k + 1 : Nat) : Int) + 1 = -(k : Int) by omega]
      have e : ap q (ap p (zt p n (-((k + 1 : Nat) : Int)) z)) = zt p n (-(k : Int)) (ap q z) := by rw [e0, ih]
      have cm := g.comm hp hq hv (by rw [e]; exact hu _)
      rw [e] at cm
      rw [show -((k + 1 : Nat) : Int) = -(k : Int) - 1 by omega] at cm ⊢
      rw [zt_pred hp hqz, cm, bk_ap hp (hq.ap_lt (by rw [← show -((k + 1 : Nat) : Int) = -(k : Int) - 1 by omega]; exact hv))]
  intro k
  rcases Int.le_total 0 k with t | t
  · have := up k.toNat
    rwa [Int.toNat_of_nonneg t] at this
  · have := dn (-k).toNat
    rwa [Int.toNat_of_nonneg (by omega), Int.neg_neg] at this
theorem down_ex {p q : List Nat} {n : Nat} {m : List Nat} {x : Nat} (h : Sh p q n) (g : Gd p q n m) (hm : ∃ a, a ∈ m ∧ a < n) (hx : x < n) : ∃ i, Mk p n m (it (bk n q) i x) := by
  refine Classical.byContradiction fun hno => ?_
  have hp := h.hp
  have hq := h.hq
  have hb := bk_pm hq
  have hbp := bk_pm hp
  have un : ∀ i, ∀ k : Int, zt p n k (it (bk n q) i x) ∉ m := fun i k hk => hno ⟨i, k, hk⟩
  -- what is met from x on
  have C1 : ∀ i (k : Int), ap p (zt p n k (it (bk n q) i x)) = zt p n (k + 1) (it (bk n q) i x) := fun i k => (zt_succ hp (it_lt hb hx i) k).symm
  have C1b : ∀ i (k : Int), ap (bk n p) (zt p n k (it (bk n q) i x)) = zt p n (k - 1) (it (bk n q) i x) := fun i k => (zt_pred hp (it_lt hb hx i) k).symm
  have C2 : ∀ i (k : Int), ap (bk n q) (zt p n k (it (bk n q) i x)) = zt p n k (it (bk n q) (i + 1) x) := fun i k => by
    have hz := it_lt hb hx (i + 1)
    have e : ap q (it (bk n q) (i + 1) x) = it (bk n q) i x := ap_bk hq (it_lt hb hx i)
    have := row_up g hp hq hz (by rw [e]; exact un i) k
    rw [e] at this
    rw [← this, bk_ap hq (zt_lt hp hz k)]
  let C : Nat → Prop := fun z => ∃ i, ∃ k : Int, z = zt p n k (it (bk n q) i x)
  have Cp : ∀ z, C z → C (ap p z) := fun z ⟨i, k, e⟩ => ⟨i, k + 1, by rw [e, C1]⟩
  have Cpb : ∀ z, C z → C (ap (bk n p) z) := fun z ⟨i, k, e⟩ => ⟨i, k - 1, by rw [e, C1b]⟩
  have Cqb : ∀ z, C z → C (ap (bk n q) z) := fun z ⟨i, k, e⟩ => ⟨i + 1, k, by rw [e, C2]⟩
  have Cit : ∀ j z, C z → C (it (bk n q) j z) := fun j => by
    induction j with
    | zero => exact fun z hz => hz
    | succ j ih => exact fun z hz => Cqb _ (ih z hz)
  have Clt : ∀ z, C z → z < n := fun z ⟨i, k, e⟩ => by rw [e]; exact zt_lt hp (it_lt hb hx i) k
  have Cq : ∀ z, C z → C (ap q z) := fun z hz => by
    have := bk_it hb (Clt z hz)
    rw [bk_bk hq] at this
    rw [this]
    exact Cit _ z hz
  have Cx : C x := ⟨0, 0, rfl⟩
  have back : ∀ z, Re p q z → C z → C 0 := fun z hz => by
    induction hz with
    | z => exact fun h => h
    | fa hz' ih =>
      intro hc
      refine ih ?_
      have := Cpb _ hc
      rwa [bk_ap hp (re_lt hp hq h.pos hz')] at this
    | fb hz' ih =>
      intro hc
      refine ih ?_
      have := Cqb _ hc
      rwa [bk_ap hq (re_lt hp hq h.pos hz')] at this
  have C0 := back x (h.re x hx) Cx
  have all : ∀ z, Re p q z → C z := fun z hz => by
    induction hz with
    | z => exact C0
    | fa _ ih => exact Cp _ ih
    | fb _ ih => exact Cq _ ih
  obtain ⟨a, ha, hal⟩ := hm
  obtain ⟨i, k, e⟩ := all a (h.re a hal)
  exact un i k (e ▸ ha)
theorem lvl_ex {p q : List Nat} {n : Nat} {m : List Nat} {x : Nat} (h : Sh p q n) (g : Gd p q n m) (hm : ∃ a, a ∈ m ∧ a < n) (hx : x < n) : ∃ y j, y < n ∧ Mk p n m y ∧ (∀ b, IsB p q n m y b → j < b.wid) ∧ it q j y = x := by
  have hp := h.hp
  have hq := h.hq
  have hb := bk_pm hq
  obtain ⟨i, hi, hl⟩ := least_nat (down_ex h g hm hx)
  have hy := it_lt hb hx i
  have up : ∀ j, j ≤ i → it q j (it (bk n q) i x) = it (bk n q) (i - j) x := fun j hj => by
    have := bk_sub hb hx (i - j) j
    rw [bk_bk hq, show j + (i - j) = i by omega] at this
    exact this
  refine ⟨it (bk n q) i x, i, hy, hi, fun b hB => ?_, by rw [up i (Nat.le_refl _), Nat.sub_self]; rfl⟩
  refine Classical.byContradiction fun hw => ?_
  have w0 := hB.w0
  obtain ⟨k, hk⟩ := hB.up
  have hz := it_lt hq hy (b.wid - 1)
  have cm := hB.comm g hp hq hy (b.wid - 1) (by omega) k
  have e1 : ap q (it q (b.wid - 1) (it (bk n q) i x)) = it (bk n q) (i - b.wid) x := by
    have := up b.wid (by omega)
    rw [show b.wid = (b.wid - 1) + 1 by omega] at this
    rw [show i - (b.wid - 1 + 1) = i - b.wid by omega] at this
    exact this
  have hu : ∀ k : Int, zt p n k (ap q (it q (b.wid - 1) (it (bk n q) i x))) ∉ m := fun k hk => by
    rw [e1] at hk
    exact hl (i - b.wid) (by omega) ⟨k, hk⟩
  have ru := row_up g hp hq hz hu k
  have : it q b.wid (zt p n k (it (bk n q) i x)) = ap q (it q (b.wid - 1) (zt p n k (it (bk n q) i x))) := by
    rw [show b.wid = (b.wid - 1) + 1 by omega]
    rfl
  rw [this, cm, ru] at hk
  exact hu k hk
def lvls (p q : List Nat) (n : Nat) (m : List Nat) (y : Nat) : List Nat := (List.range (bandOf q (cyc p n y) m n).wid).map fun j => it q j y
theorem lvls_perm {p q : List Nat} {n : Nat} {m : List Nat} (h : Sh p q n) (g : Gd p q n m) (hm : ∃ a, a ∈ m ∧ a < n) : ((((List.range n).filter fun y => hasM m (cyc p n y)).map (lvls p q n m)).flatten).Perm (List.range n) := by
  have hp := h.hp
  have hq := h.hq
  have hlt : ∀ y ∈ (List.range n).filter (fun y => hasM m (cyc p n y)), y < n ∧ Mk p n m y := fun y hy => by
    have := List.mem_filter.mp hy
    have hyn := List.mem_range.mp this.1
    exact ⟨hyn, (hasM_cyc hp hyn).mp this.2⟩
  have no : ∀ {y z j i : Nat}, y < n → z < n → Mk p n m y → ∀ {c : Bn}, IsB p q n m z c → j < i → i < c.wid → it q j y = it q i z → False := fun {y z j i} hy hz hM {c} hc hj hi e => by
    rw [show i = j + (i - j) by omega, it_add] at e
    have e := it_inj hq hy (it_lt hq hz _) _ e
    obtain ⟨k, hk⟩ := hM
    rw [e, ← hc.comm g hp hq hz _ (by omega)] at hk
    exact hc.low _ (by omega) (by omega) k hk
  have hnd : ((List.range n).filter fun y => hasM m (cyc p n y)).Nodup := List.Pairwise.filter _ List.nodup_range
  refine (List.perm_ext_iff_of_nodup ?_ List.nodup_range).mpr fun x => ?_
  · rw [List.nodup_iff_pairwise_ne, List.pairwise_flatten]
    refine ⟨fun l hl => ?_, ?_⟩
    · obtain ⟨y, hy, e⟩ := List.mem_map.mp hl
      obtain ⟨hy, hM⟩ := hlt y hy
      subst e
      unfold lvls
      rw [List.pairwise_map]
      refine List.Pairwise.imp_of_mem (fun {i j} hi hj hlt e => ?_) (List.pairwise_lt_range (n := (bandOf q (cyc p n y) m n).wid))
      exact no hy hy hM (isB_of hp hq hy hM) hlt (List.mem_range.mp hj) e
    · rw [List.pairwise_map]
      refine List.Pairwise.imp_of_mem (fun {y z} hy hz hne => ?_) hnd
      intro u hu v hv e
      subst e
      obtain ⟨i, hi, e1⟩ := List.mem_map.mp hu
      obtain ⟨j, hj, e2⟩ := List.mem_map.mp hv
      obtain ⟨hy, hMy⟩ := hlt y hy
      obtain ⟨hz, hMz⟩ := hlt z hz
      rcases Nat.lt_trichotomy i j with t | t | t
      · exact no hy hz hMy (isB_of hp hq hz hMz) t (List.mem_range.mp hj) (e1.trans e2.symm)
      · subst t
        exact hne (it_inj hq hy hz i (e1.trans e2.symm))
      · exact no hz hy hMz (isB_of hp hq hy hMy) t (List.mem_range.mp hi) (e2.trans e1.symm)
  · rw [List.mem_flatten, List.mem_range]
    constructor
    · intro ⟨l, hl, hx⟩
      obtain ⟨y, hy, rfl⟩ := List.mem_map.mp hl
      obtain ⟨j, _, e⟩ := List.mem_map.mp hx
      exact e ▸ it_lt hq (hlt y hy).1 j
    · intro hx
      obtain ⟨y, j, hy, hM, hj, e⟩ := lvl_ex h g hm hx
      exact ⟨_, List.mem_map.mpr ⟨y, List.mem_filter.mpr ⟨List.mem_range.mpr hy, (hasM_cyc hp hy).mpr hM⟩, rfl⟩, List.mem_map.mpr ⟨j, List.mem_range.mpr (hj _ (isB_of hp hq hy hM)), e⟩⟩
/-- what is reckoned of each square of a marked row -/
def hW (p q : List Nat) (n : Nat) (m : List Nat) (f : Nat → Bool) (y : Nat) : Nat := if hasM m (cyc p n y) = true ∧ f y = true then (bandOf q (cyc p n y) m n).wid else 0
theorem lvls_cnt {p q : List Nat} {n : Nat} {m : List Nat} (f : Nat → Bool) : ∀ ys : List Nat, (∀ y ∈ ys, hasM m (cyc p n y) = true → ∀ j, j < (bandOf q (cyc p n y) m n).wid → f (it q j y) = f y) → (((ys.filter fun y => hasM m (cyc p n y)).map (lvls p q n m)).flatten.countP f) = (ys.map (hW p q n m f)).sum
  | [], _ => rfl
  | y :: ys, hf => by
    have ih := lvls_cnt f ys fun z hz => hf z (List.mem_cons_of_mem _ hz)
    rw [List.map_cons, List.sum_cons]
    by_cases h : hasM m (cyc p n y) = true
    · rw [List.filter_cons_of_pos (p := fun y => hasM m (cyc p n y)) h, List.map_cons, List.flatten_cons, List.countP_append, ih]
      congr 1
      have hy := hf y List.mem_cons_self h
      unfold hW
      by_cases e : f y = true
      · rw [if_pos ⟨h, e⟩]
        have : (lvls p q n m y).countP f = (lvls p q n m y).length := List.countP_eq_length.mpr fun z hz => by
          obtain ⟨j, hj, rfl⟩ := List.mem_map.mp hz
          rw [hy j (List.mem_range.mp hj)]
          exact e
        rw [this]
        simp [lvls]
      · rw [if_neg (fun z => e z.2)]
        exact List.countP_eq_zero.mpr fun z hz => by
          obtain ⟨j, hj, rfl⟩ := List.mem_map.mp hz
          rw [hy j (List.mem_range.mp hj)]
          exact e
    · rw [List.filter_cons_of_neg (p := fun y => hasM m (cyc p n y)) h, ih]
      unfold hW
      rw [if_neg (fun z => h z.1), Nat.zero_add]
theorem sum_const {α : Type} (h : α → Nat) (c : Nat) : ∀ l : List α, (∀ x ∈ l, h x = c) → (l.map h).sum = l.length * c
  | [], _ => by simp
  | x :: l, hh => by
    rw [List.map_cons, List.sum_cons, sum_const h c l fun y hy => hh y (List.mem_cons_of_mem _ hy), hh x List.mem_cons_self, List.length_cons, Nat.add_mul, Nat.one_mul, Nat.add_comm]
theorem sum_rounds {r : List Nat} {n : Nat} (hr : Pm r n) (h : Nat → Nat) (hc : ∀ x, x < n → ∀ y ∈ cyc r n x, h y = h x) : ((List.range n).map h).sum = ((reps r n n).map fun y => ordr r n y * h y).sum := by
  have e := ((rounds_perm hr).map h).sum_nat
  rw [← e]
  have go : ∀ ys : List Nat, (∀ y ∈ ys, y < n) → (((ys.map (cyc r n)).flatten).map h).sum = (ys.map fun y => ordr r n y * h y).sum := fun ys => by
    induction ys with
    | nil => exact fun _ => rfl
    | cons y ys ih =>
      intro hy
      rw [List.map_cons, List.flatten_cons, List.map_append, List.sum_append, ih fun z hz => hy z (List.mem_cons_of_mem _ hz), List.map_cons, List.sum_cons, sum_const h (h y) _ fun z hz => hc y (hy y List.mem_cons_self) z hz, cyc_len]
  exact go _ fun y hy => reps_lt hy
theorem hW_cyc {p q : List Nat} {n : Nat} {m : List Nat} (hp : Pm p n) (hq : Pm q n) (f : Nat → Bool) (hf : ∀ x, x < n → ∀ y ∈ cyc p n x, f y = f x) : ∀ x, x < n → ∀ y ∈ cyc p n x, hW p q n m f y = hW p q n m f x := fun x hx y hy => by
  have hyn := cyc_lt hp hx hy
  have e := fB_cyc (q := q) (m := m) id hp hq x hx y hy
  unfold hW
  rw [hf x hx y hy]
  unfold fB at e
  by_cases h : hasM m (cyc p n x) = true
  · rw [if_pos h] at e
    by_cases h2 : hasM m (cyc p n y) = true
    · rw [if_pos h2] at e
      injection e with e
      simp only [id] at e
      rw [e, h, h2]
    · rw [if_neg h2] at e
      cases e
  · rw [if_neg h] at e
    by_cases h2 : hasM m (cyc p n y) = true
    · rw [if_pos h2] at e
      cases e
    · rw [if_neg (fun z => h2 z.1), if_neg (fun z => h z.1)]
def wsum (B : List Bn) (L : Nat) : Nat := (B.map fun b => if b.len = L then b.wid else 0).sum
def tsum (B : List Bn) : Nat := (B.map fun b => b.len * b.wid).sum
theorem ordr_lvl {p q : List Nat} {n : Nat} {m : List Nat} {y j : Nat} {b : Bn} (g : Gd p q n m) (hp : Pm p n) (hq : Pm q n) (hy : y < n) (hb : IsB p q n m y b) (hj : j < b.wid) : ordr p n (it q j y) = ordr p n y := by
  obtain ⟨a, _, c, d⟩ := ordr_spec hp hy
  have cm := hb.comm g hp hq hy j hj
  refine ordr_of hp (it_lt hq hy j) a ?_ fun i h1 h2 e => d i h1 h2 ?_
  · have := cm (ordr p n y : Nat)
    rw [zt_nat, zt_nat, c] at this
    exact this.symm
  · have := cm (i : Nat)
    rw [zt_nat, zt_nat, e] at this
    exact it_inj hq (it_lt hp hy i) hy _ this
theorem bl_sum {p q : List Nat} {n : Nat} {m : List Nat} (G : Bn → Nat) (h : Nat → Nat) : ∀ ys : List Nat, (∀ y ∈ ys, h y = if hasM m (cyc p n y) = true then G (bandOf q (cyc p n y) m n) else 0) → (ys.map h).sum = ((((ys.map (cyc p n)).filter (hasM m)).map fun row => bandOf q row m n).map G).sum
  | [], _ => rfl
  | y :: ys, hh => by
    rw [List.map_cons, List.sum_cons, bl_sum G h ys fun z hz => hh z (List.mem_cons_of_mem _ hz), hh y List.mem_cons_self, List.map_cons]
    by_cases e : hasM m (cyc p n y) = true
    · rw [if_pos e, List.filter_cons_of_pos e, List.map_cons, List.map_cons, List.sum_cons]
    · rw [if_neg e, List.filter_cons_of_neg e, Nat.zero_add]
theorem marks_ex {p q : List Nat} {n : Nat} (hp : Pm p n) (hq : Pm q n) (h0 : 0 < n) : ∃ a, a ∈ marksL p q n ∧ a < n := by
  have hne : marksL p q n ≠ [] := by
    rw [marks_eq hp hq]
    split
    · simp
    · assumption
  obtain ⟨a, ha⟩ := List.exists_mem_of_ne_nil _ hne
  exact ⟨a, ha, marks_lt hp hq h0 a ha⟩
/-- lengths times widths -/
theorem cover_all {p q : List Nat} {n : Nat} (h : Sh p q n) : tsum (bandL p q n) = n := by
  have hp := h.hp
  have hq := h.hq
  have g := gd_marks hp hq
  have pm := lvls_perm h g (marks_ex hp hq h.pos)
  have e1 := lvls_cnt (p := p) (q := q) (n := n) (m := marksL p q n) (fun _ => true) (List.range n) fun _ _ _ _ _ => rfl
  rw [pm.countP_eq, sum_rounds hp _ (hW_cyc hp hq (fun _ => true) fun _ _ _ _ => rfl)] at e1
  have e0 : (List.range n).countP (fun _ => true) = n := by simp
  rw [e0] at e1
  rw [bandL_m]
  unfold tsum bandLm
  rw [← bl_sum (fun b => b.len * b.wid) (fun y => ordr p n y * hW p q n (marksL p q n) (fun _ => true) y) (reps p n n) fun y hy => ?_]
  · exact e1.symm
  · unfold hW
    by_cases e : hasM (marksL p q n) (cyc p n y) = true
    · rw [if_pos ⟨e, rfl⟩, if_pos e]
      show _ = (cyc p n y).length * _
      rw [cyc_len]
    · rw [if_neg (fun z => e z.1), if_neg e, Nat.mul_zero]
/-- for each length the widths come to the number of rows -/
theorem cover_len {p q : List Nat} {n : Nat} (h : Sh p q n) (L : Nat) (hL : 0 < L) : wsum (bandL p q n) L = ((reps p n n).map (ordr p n)).count L := by
  have hp := h.hp
  have hq := h.hq
  have g := gd_marks hp hq
  have pm := lvls_perm h g (marks_ex hp hq h.pos)
  have fc : ∀ x, x < n → ∀ y ∈ cyc p n x, (fun x => decide (ordr p n x = L)) y = (fun x => decide (ordr p n x = L)) x := fun x hx y hy => by
    show decide (ordr p n y = L) = decide (ordr p n x = L)
    rw [ordr_cyc hp hx hy]
  have e1 := lvls_cnt (p := p) (q := q) (n := n) (m := marksL p q n) (fun x => decide (ordr p n x = L)) (List.range n) fun y hy hM j hj => by
    have hyn := List.mem_range.mp hy
    show decide (ordr p n (it q j y) = L) = decide (ordr p n y = L)
    rw [ordr_lvl g hp hq hyn (isB_of hp hq hyn ((hasM_cyc hp hyn).mp hM)) hj]
  rw [pm.countP_eq, sum_rounds hp _ (hW_cyc hp hq _ fc)] at e1
  have e2 := cnt_reps hp L
  unfold cntO at e2
  rw [e2] at e1
  have e3 : ((reps p n n).map fun y => ordr p n y * hW p q n (marksL p q n) (fun x => decide (ordr p n x = L)) y).sum = L * ((reps p n n).map (hW p q n (marksL p q n) fun x => decide (ordr p n x = L))).sum := by
    generalize reps p n n = ys
    induction ys with
    | nil => rfl
    | cons y ys ih =>
      rw [List.map_cons, List.sum_cons, ih, List.map_cons, List.sum_cons, Nat.mul_add]
      congr 1
      unfold hW
      split
      · rename_i hc
        have : ordr p n y = L := by simpa using hc.2
        rw [this]
      · rw [Nat.mul_zero, Nat.mul_zero]
  rw [e3, Nat.mul_comm] at e1
  have e4 := Nat.eq_of_mul_eq_mul_left hL e1
  rw [bandL_m]
  unfold wsum bandLm
  rw [← bl_sum (fun b => if b.len = L then b.wid else 0) (hW p q n (marksL p q n) fun x => decide (ordr p n x = L)) (reps p n n) fun y hy => ?_, ← e4, List.count_eq_countP, List.countP_map]
  · refine List.countP_congr fun y _ => ?_
    simp
  · unfold hW
    have el : (bandOf q (cyc p n y) (marksL p q n) n).len = ordr p n y := cyc_len p n y
    rw [el]
    by_cases e : hasM (marksL p q n) (cyc p n y) = true
    · rw [if_pos e]
      by_cases e2 : ordr p n y = L
      · rw [if_pos ⟨e, by simpa using e2⟩, if_pos e2]
      · rw [if_neg (fun z => e2 (by simpa using z.2)), if_neg e2]
    · rw [if_neg (fun z => e z.1), if_neg e]
theorem isB_ne {p q : List Nat} {n : Nat} {m : List Nat} {y : Nat} {b : Bn} (hp : Pm p n) (hy : y < n) (hM : Mk p n m y) (hb : IsB p q n m y b) : b.sh ≠ [] := by
  obtain ⟨k0, h0⟩ := hM
  obtain ⟨k1, h1⟩ := hb.up
  have hL := (ordr_spec hp hy).1
  have m0 := Int.emod_nonneg (k1 - k0) (b := (ordr p n y : Nat)) (by omega)
  have m1 := Int.emod_lt_of_pos (k1 - k0) (b := (ordr p n y : Nat)) (by omega)
  have e2 := Int.emod_add_mul_ediv (k1 - k0) (ordr p n y : Nat)
  obtain ⟨t, ht⟩ := Int.eq_ofNat_of_zero_le m0
  rw [ht] at m1 e2
  have : t ∈ b.sh := (hb.sh t).mpr ⟨by rw [hb.len]; omega, k0, h0, by
    rw [zt_congr hp hy (emod_shift (k0 + t) k1 _ (-((k1 - k0) / (ordr p n y : Nat))) (by rw [Int.mul_neg]; omega))]
    exact h1⟩
  intro e
  rw [e] at this
  cases this

/-! tables: four numbers -/
structure Tb where
  a : Int
  b : Int
  c : Int
  d : Int
def Tb.D (t : Tb) : D := .tuple [.int t.a, .int t.b, .int t.c, .int t.d]
def Tb.mul (x y : Tb) : Tb := ⟨x.a * y.a + x.b * y.c, x.a * y.b + x.b * y.d, x.c * y.a + x.d * y.c, x.c * y.b + x.d * y.d⟩
def Tb.det (x : Tb) : Int := x.a * x.d - x.b * x.c
def Tb.inv (x : Tb) : Tb := ⟨x.d, -x.b, -x.c, x.a⟩
def Tb.one : Tb := ⟨1, 0, 0, 1⟩
structure Tb.Le (k : Nat) (t : Tb) : Prop where
  a : t.a.natAbs < 2 ^ k
  b : t.b.natAbs < 2 ^ k
  c : t.c.natAbs < 2 ^ k
  d : t.d.natAbs < 2 ^ k
theorem Tb.mul_det (x y : Tb) : (x.mul y).det = x.det * y.det := by
  unfold Tb.mul Tb.det
  grind
theorem Tb.mul_as (x y z : Tb) : (x.mul y).mul z = x.mul (y.mul z) := by
  unfold Tb.mul
  simp only [Tb.mk.injEq]
  refine ⟨?_, ?_, ?_, ?_⟩ <;> grind
theorem Tb.mul_inv (x : Tb) (h : x.det = 1) : x.mul x.inv = .one := by
  unfold Tb.det at h
  unfold Tb.mul Tb.inv Tb.one
  simp only [Tb.mk.injEq]
  refine ⟨?_, ?_, ?_, ?_⟩ <;> grind
theorem Tb.inv_mul (x : Tb) (h : x.det = 1) : x.inv.mul x = .one := by
  unfold Tb.det at h
  unfold Tb.mul Tb.inv Tb.one
  simp only [Tb.mk.injEq]
  refine ⟨?_, ?_, ?_, ?_⟩ <;> grind
theorem Tb.inv_det (x : Tb) : x.inv.det = x.det := by
  unfold Tb.inv Tb.det
  grind
theorem Tb.inv_le {k : Nat} {x : Tb} (h : x.Le k) : x.inv.Le k := ⟨h.d, by rw [show x.inv.b = -x.b from rfl, Int.natAbs_neg]; exact h.b, by rw [show x.inv.c = -x.c from rfl, Int.natAbs_neg]; exact h.c, h.a⟩
theorem abs_sum2 {a b c d : Int} {j k : Nat} (ha : a.natAbs < 2 ^ j) (hb : b.natAbs < 2 ^ k) (hc : c.natAbs < 2 ^ j) (hd : d.natAbs < 2 ^ k) : (a * b + c * d).natAbs < 2 ^ (j + k + 1) := by
  have h1 : (a * b).natAbs < 2 ^ (j + k) := by
    rw [Int.natAbs_mul, Nat.pow_add]
    exact Nat.mul_lt_mul'' ha hb
  have h2 : (c * d).natAbs < 2 ^ (j + k) := by
    rw [Int.natAbs_mul, Nat.pow_add]
    exact Nat.mul_lt_mul'' hc hd
  have h3 := Int.natAbs_add_le (a * b) (c * d)
  rw [Nat.pow_succ]
  omega
theorem Tb.mul_le {j k : Nat} {x y : Tb} (h : x.Le j) (g : y.Le k) : (x.mul y).Le (j + k + 1) := ⟨abs_sum2 h.a g.a h.b g.c, abs_sum2 h.a g.b h.b g.d, abs_sum2 h.c g.a h.d g.c, abs_sum2 h.c g.b h.d g.d⟩
theorem Tb.Le.mono {j k : Nat} {x : Tb} (h : x.Le j) (l : j ≤ k) : x.Le k := by
  have : 2 ^ j ≤ 2 ^ k := Nat.pow_le_pow_right (by decide) l
  exact ⟨Nat.lt_of_lt_of_le h.a this, Nat.lt_of_lt_of_le h.b this, Nat.lt_of_lt_of_le h.c this, Nat.lt_of_lt_of_le h.d this⟩
theorem log_kk {i : Int} {k : Nat} (hk : 1 ≤ k) (h : i.natAbs < 2 ^ k) : i.natAbs.log2 < k := by
  by_cases z : i.natAbs = 0
  · rw [z, Nat.log2_zero]
    omega
  · exact (Nat.log2_lt z).mpr h
theorem imul_kk {i j : Int} {k : Nat} (hk : 1 ≤ k ∧ k ≤ 400000) (hi : i.natAbs < 2 ^ k) (hj : j.natAbs < 2 ^ k) : imul i j = .ok (.int (i * j)) := by
  unfold imul
  rw [if_pos (.inr (.inr (by have := log_kk hk.1 hi; have := log_kk hk.1 hj; omega)))]
theorem imul_k {i j : Int} (hi : i.natAbs < 2 ^ 400) (hj : j.natAbs < 2 ^ 400) : imul i j = .ok (.int (i * j)) := imul_kk (by decide) hi hj
theorem Tb.td (t : Tb) : td 1 t.D = true := by
  simp [Tb.D, Sq.td]
theorem Tb.D_inj {x y : Tb} : x.D = y.D ↔ x = y := by
  cases x
  cases y
  simp [Tb.D]
theorem Tb.ne_same (t : Tb) : deq true t.D t.D = .ok (.bool false) := Sq.ne_same 1 t.td
theorem Tb.eq_same (t : Tb) : deq false t.D t.D = .ok (.bool true) := Sq.eq_same 1 t.td
theorem two_inj {p q r s : Int} : (PyData.tuple [.int p, .int q]) = PyData.tuple [.int r, .int s] ↔ p = r ∧ q = s := by simp
theorem unp4T {τ1 τ2 τ3 τ4 : TF} {t : Tb} {ρ : Env} : unpT [τ1, τ2, τ3, τ4] (.v t.D) ρ = (τ1 (.v (.int t.a)) ρ).bind fun ρ' => (τ2 (.v (.int t.b)) ρ').bind fun ρ'' => (τ3 (.v (.int t.c)) ρ'').bind fun ρ3 => (τ4 (.v (.int t.d)) ρ3).bind fun ρ4 => .ok ρ4 := (rfl)

/-! texts as rows of numbers -/
theorem atN {α : Type} (xs : List α) (i : Nat) : atI xs (i : Int) = xs[i]? := by
  unfold atI ixN
  rw [if_pos (Int.natCast_nonneg i)]
  by_cases h : i < xs.length
  · rw [if_pos (by omega)]
    rfl
  · rw [if_neg (by omega), List.getElem?_eq_none (by omega)]
    rfl
theorem str_ext {a b : Str} (h : a.cps.toList = b.cps.toList) : a = b := by
  cases a
  cases b
  have := Array.toList_inj.mp h
  simpa using this
def jl (s : List Nat) : List (List Nat) → List Nat
  | [] => []
  | [x] => x
  | x :: y :: r => x ++ s ++ jl s (y :: r)
theorem join_cps (sep : Str) : ∀ ys : List Str, (Txt.join sep ys).cps.toList = jl sep.cps.toList (ys.map fun y => y.cps.toList) := by
  intro ys
  show (Builtin.Str.glued sep ys).cps.toList = _
  rw [StrLaws.glued_eq_join]
  induction ys with
  | nil => rfl
  | cons x r ih =>
    cases r with
    | nil => rfl
    | cons y r =>
      show (x.cps ++ sep.cps ++ (Str.join sep (y :: r)).cps).toList = _
      rw [Array.toList_append, Array.toList_append, ih]
      rfl
theorem jl_nil : ∀ xs : List (List Nat), jl [] xs = xs.flatten
  | [] => rfl
  | [x] => by simp [jl]
  | x :: y :: r => by
    rw [jl, jl_nil (y :: r)]
    simp
theorem ixR_str {z : Str} {i c : Nat} (hz : z.length ≤ 100000) (h : z.cps.toList[i]? = some c) : ixR (.v (.str z)) (.v (.int i)) = .ok (.v (.str ⟨#[c]⟩)) := by
  have e : flat2 ixStr (.v (.str z)) (.v (.int i)) = .ok (.v (.str ⟨#[c]⟩)) := by
    unfold flat2 ixStr
    simp only [dat_v]
    rw [if_pos hz]
    have : atI z.cps.toList (i : Int) = some c := (atN z.cps.toList i).trans h
    rw [this]
    rfl
  have e2 : alt ixSeq (flat2 ixStr) (.v (.str z)) (.v (.int i)) = .ok (.v (.str ⟨#[c]⟩)) := by
    rw [alt_r (by rfl)]
    exact e
  show alt ixDic (alt ixSeq (flat2 ixStr)) _ _ = _
  rw [alt_r (by rfl)]
  exact e2
/-! the signs of squares -/
def sgS : Str := "0123456789abcdefghijklmnopqrstuvwxyz"
def sgn (i : Nat) : Nat := sgS.cps.toList.getD i 0
theorem sg_len : sgS.length = 36 := by decide +kernel
theorem sg_get {i : Nat} (h : i < 36) : sgS.cps.toList[i]? = some (sgn i) := by
  have hl : i < sgS.cps.toList.length := by
    have := sg_len
    unfold Str.length at this
    rw [Array.length_toList]
    omega
  unfold sgn
  rw [List.getD_eq_getElem?_getD, List.getElem?_eq_getElem hl]
  rfl
theorem find_all : (List.range 36).all (fun i => Txt.find sgS ⟨#[sgn i]⟩ == (i : Int)) = true := by decide +kernel
theorem find_sg {i : Nat} (h : i < 36) : Txt.find sgS ⟨#[sgn i]⟩ = i := by
  have := List.all_eq_true.mp find_all i (List.mem_range.mpr h)
  exact eq_of_beq this
theorem blank_all : (List.range 36).all (fun i => !(sgn i == 32)) = true := by decide +kernel
theorem sgn_ne {i : Nat} (h : i < 36) : sgn i ≠ 32 := by
  have := List.all_eq_true.mp blank_all i (List.mem_range.mpr h)
  simpa using this
/-- the word of a row -/
def wrd (r : List Nat) : Str := ⟨(r.map sgn).toArray⟩
def one (x : Nat) : Str := ⟨#[sgn x]⟩
theorem wrd_len (r : List Nat) : (wrd r).length = r.length := by simp [wrd, Str.length]
theorem wrd_chars (r : List Nat) : chars (wrd r) = r.map fun x => Rv.v (.str (one x)) := by
  unfold chars wrd one
  simp
theorem join_one (sep : Str) (hs : sep.cps.toList = []) (r : List Nat) : Txt.join sep (r.map one) = wrd r := by
  apply str_ext
  rw [join_cps, hs, jl_nil, List.map_map]
  unfold wrd one
  induction r with
  | nil => rfl
  | cons x r ih =>
    rw [List.map_cons, List.flatten_cons, ih]
    rfl
/-- two words with a blank between -/
def two (p q : List Nat) : Str := ⟨(p.map sgn ++ [32] ++ q.map sgn).toArray⟩
theorem blank_cps : ((" " : Str)).cps.toList = [32] := by decide +kernel
theorem empty_cps : (("" : Str)).cps.toList = [] := by decide +kernel
theorem join_two (p q : List Nat) : Txt.join " " [wrd p, wrd q] = two p q := by
  apply str_ext
  rw [join_cps, blank_cps]
  unfold wrd two
  simp [jl]
theorem cut_uniq {a b x y : List Nat} (ha : 32 ∉ a) (hx : 32 ∉ x) (h : a ++ 32 :: b = x ++ 32 :: y) : a = x ∧ b = y := by
  induction a generalizing x with
  | nil =>
    cases x with
    | nil => exact ⟨rfl, by simpa using h⟩
    | cons c x =>
      simp at h
      exact absurd (by rw [h.1]; exact List.mem_cons_self) hx
  | cons c a ih =>
    cases x with
    | nil =>
      simp at h
      exact absurd (by rw [h.1]; exact List.mem_cons_self) ha
    | cons d x =>
      simp at h
      obtain ⟨e1, e2⟩ := h
      obtain ⟨e3, e4⟩ := ih (fun z => ha (List.mem_cons_of_mem _ z)) (fun z => hx (List.mem_cons_of_mem _ z)) e2
      exact ⟨by rw [e1, e3], e4⟩
theorem jl_two {ps : List (List Nat)} {u v : List Nat} (hf : ∀ p ∈ ps, 32 ∉ p) (hu : 32 ∉ u) (hv : 32 ∉ v) (h : jl [32] ps = u ++ 32 :: v) : ps = [u, v] := by
  match ps with
  | [] => simp [jl] at h
  | [x] =>
    simp only [jl] at h
    exact absurd (by rw [h]; simp) (hf x (by simp))
  | x :: y :: r =>
    simp only [jl, List.append_assoc, List.singleton_append] at h
    obtain ⟨e1, e2⟩ := cut_uniq (hf x (by simp)) hu h
    cases r with
    | nil =>
      simp only [jl] at e2
      rw [e1, e2]
    | cons z r =>
      simp only [jl, List.append_assoc] at e2
      exact absurd (by rw [← e2]; simp) hv
theorem sg_free {r : List Nat} (h : ∀ x ∈ r, x < 36) : 32 ∉ r.map sgn := fun z => by
  obtain ⟨x, hx, e⟩ := List.mem_map.mp z
  exact sgn_ne (h x hx) e
theorem split_two {p q : List Nat} (hp : ∀ x ∈ p, x < 36) (hq : ∀ x ∈ q, x < 36) : Txt.split (two p q) " " = [wrd p, wrd q] := by
  have e0 : (" " : Str) = ⟨#[32]⟩ := by decide +kernel
  have h1 := StrLaws.join_split (two p q) " "
  have h2 := StrLaws.split_free (two p q) 32
  rw [← e0] at h2
  generalize Txt.split (two p q) " " = ps at h1 h2
  have h3 : jl [32] (ps.map fun y => y.cps.toList) = p.map sgn ++ 32 :: q.map sgn := by
    rw [← blank_cps, ← join_cps]
    show (Builtin.Str.glued " " ps).cps.toList = _
    rw [StrLaws.glued_eq_join, h1]
    simp [two]
  have h4 := jl_two (by
    intro y hy
    obtain ⟨z, hz, rfl⟩ := List.mem_map.mp hy
    exact h2 z hz) (sg_free hp) (sg_free hq) h3
  match ps, h4 with
  | [a, b], h4 =>
    simp at h4
    rw [show a = wrd p from str_ext (by simpa [wrd] using h4.1), show b = wrd q from str_ext (by simpa [wrd] using h4.2)]
  | [], h4 => simp at h4
  | [a], h4 => simp at h4
  | a :: b :: c :: r, h4 => simp at h4

theorem dStrs_map : ∀ ys : List Str, dStrs (ys.map .str) = some ys
  | [] => rfl
  | y :: ys => by
    rw [List.map_cons, dStrs, dStrs_map ys]
    rfl
theorem joinR_o {s : Str} {ys : List Str} (h : (ys.map (·.length)).sum + ys.length * s.length ≤ 16777216) : joinR s (.o (ys.map .str)) = .ok (.v (.str (Txt.join s ys))) := by
  unfold joinR
  simp only [dat_o]
  rw [dStrs_map]
  simp only
  rw [if_pos h]
theorem empty_len : ("" : Str).length = 0 := by decide +kernel
theorem blank_len : (" " : Str).length = 1 := by decide +kernel

/-! words of s and t -/
def tx (w : List Nat) : Str := ⟨w.toArray⟩
def ch1 (c : Nat) : Str := ⟨#[c]⟩
def St (w : List Nat) : Prop := ∀ c ∈ w, c = 115 ∨ c = 116
theorem tx_len (w : List Nat) : (tx w).length = w.length := by simp [tx, Str.length]
theorem tx_cps (w : List Nat) : (tx w).cps.toList = w := by simp [tx]
theorem tx_chars (w : List Nat) : chars (tx w) = w.map fun c => Rv.v (.str (ch1 c)) := by
  unfold chars tx ch1
  simp
theorem str_xt {a b : Str} (h : a.cps.toList = b.cps.toList) : a = b := by
  cases a
  cases b
  have := Array.toList_inj.mp h
  simpa using this
theorem tx_of {s : Str} {w : List Nat} (h : s.cps.toList = w) : s = tx w := str_xt (by rw [h, tx_cps])
theorem tx_app (u v : List Nat) : tx u ++ tx v = tx (u ++ v) := by
  apply tx_of
  show ((tx u).cps ++ (tx v).cps).toList = _
  rw [Array.toList_append, tx_cps, tx_cps]
theorem len_tx {w : List Nat} (h : w.length ≤ 100000) : lenR (.v (.str (tx w))) = .ok (.v (.int w.length)) := by
  unfold lenR
  simp only [dat_v, tx_len]
  rw [if_pos h]
theorem add_tx {u v : List Nat} (h : u.length + v.length ≤ 100000) : addR (.v (.str (tx u))) (.v (.str (tx v))) = .ok (.v (.str (tx (u ++ v)))) := by
  unfold addR
  rw [alt_r (by rfl)]
  refine alt_l ?_
  rw [flat2_e _ (dat_v _) (dat_v _)]
  unfold sadd
  simp only [tx_len]
  rw [if_pos h, tx_app]
  rfl
theorem cut_tx (w : List Nat) (k : Nat) : cutS (tx w) none (some (k : Int)) = tx (w.take k) := by
  apply tx_of
  unfold cutS
  rw [HT.sIx_none, HT.sIx_nat, tx_cps, tx_len]
  show (List.take (min k w.length - 0) (List.drop 0 w)).toArray.toList = _
  simp [List.take_eq_take_iff]
theorem cut_tx2 (w : List Nat) (k : Nat) : cutS (tx w) (some (k : Int)) none = tx (w.drop k) := by
  apply tx_of
  unfold cutS
  rw [HT.sIx_none, HT.sIx_nat, tx_cps, tx_len]
  show (List.take (w.length - min k w.length) (List.drop (min k w.length) w)).toArray.toList = _
  by_cases h : k ≤ w.length
  · rw [Nat.min_eq_left h]
    simp only [List.toList_toArray]
    exact List.take_of_length_le (by rw [List.length_drop]; omega)
  · rw [Nat.min_eq_right (by omega), List.drop_eq_nil_of_le (by omega), List.drop_eq_nil_of_le (by omega)]
    simp
theorem slR_l {w : List Nat} (k : Nat) (h : w.length ≤ 100000) : slR (.v (.str (tx w))) none (some (k : Int)) = .ok (.v (.str (tx (w.take k)))) := by
  show (if (tx w).length ≤ 100000 then Er.ok (Rv.v (.str (cutS (tx w) none (some (k : Int))))) else .bad) = _
  rw [if_pos (by rw [tx_len]; exact h), cut_tx]
theorem slR_r {w : List Nat} (k : Nat) (h : w.length ≤ 100000) : slR (.v (.str (tx w))) (some (k : Int)) none = .ok (.v (.str (tx (w.drop k)))) := by
  show (if (tx w).length ≤ 100000 then Er.ok (Rv.v (.str (cutS (tx w) (some (k : Int)) none))) else .bad) = _
  rw [if_pos (by rw [tx_len]; exact h), cut_tx2]
/-! the letters -/
theorem ok_ch1 {c : Nat} (h : c < 1114112) : PyData.strOk (ch1 c) = true := by
  unfold PyData.strOk ch1
  simp [h]
theorem deq_ch {c d : Nat} (hc : c < 1114112) (hd : d < 1114112) : deq false (.str (ch1 c)) (.str (ch1 d)) = .ok (.bool (decide (c = d))) := by
  have sh : ∀ c, c < 1114112 → SeqAt.shaped (.str (ch1 c)) = true := fun c h => by
    unfold SeqAt.shaped
    rw [PyData.canLay0, ok_ch1 h, PyData.depth]
    rfl
  unfold deq
  rw [if_pos ⟨sh c hc, sh d hd⟩, PyData.eqv]
  congr 2
  by_cases h : c = d
  · subst h
    simp
  · have : ch1 c ≠ ch1 d := fun z => h (by
      have := congrArg (fun s : Str => s.cps.toList) z
      simpa [ch1] using this)
    simp [h, this]
theorem s_is : ("s" : Str) = ch1 115 := by decide +kernel
theorem t_is : ("t" : Str) = ch1 116 := by decide +kernel
theorem is_s {c : Nat} (h : c = 115 ∨ c = 116) : deq false (.str (ch1 c)) (.str "s") = .ok (.bool (decide (c = 115))) := by
  rw [s_is]
  exact deq_ch (by omega) (by decide)
theorem inst_of {s : Str} {b : Bool} (h : inStr true (.str s) (.str "st") = .ok (.bool b)) : inR true (.v (.str s)) (.v (.str "st")) = .ok (.v (.bool b)) := by
  refine (alt_r rfl).trans ((alt_r rfl).trans ?_)
  rw [flat2_e _ rfl rfl, h]
  rfl
theorem in_s1 : inR true (.v (.str (ch1 115))) (.v (.str "st")) = .ok (.v (.bool false)) := inst_of (by
  show Er.ok (PyData.bool _) = _
  congr 2
  decide +kernel)
theorem in_t1 : inR true (.v (.str (ch1 116))) (.v (.str "st")) = .ok (.v (.bool false)) := inst_of (by
  show Er.ok (PyData.bool _) = _
  congr 2
  decide +kernel)
theorem in_st {c : Nat} (h : c = 115 ∨ c = 116) : inR true (.v (.str (ch1 c))) (.v (.str "st")) = .ok (.v (.bool false)) := by
  rcases h with rfl | rfl
  · exact in_s1
  · exact in_t1
/-! the table of a word -/
def tS1 : Tb := ⟨1, 1, 0, 1⟩
def tT1 : Tb := ⟨0, -1, 1, 0⟩
def lt1 (c : Nat) : Tb := if c = 115 then tS1 else tT1
def tbl (w : List Nat) : Tb := w.foldl (fun t c => (lt1 c).mul t) .one
theorem lt1_le (c : Nat) : (lt1 c).Le 1 := by
  unfold lt1
  split
  · exact ⟨by decide, by decide, by decide, by decide⟩
  · exact ⟨by decide, by decide, by decide, by decide⟩
theorem lt1_det (c : Nat) : (lt1 c).det = 1 := by
  unfold lt1
  split <;> decide
theorem lt1_s (t : Tb) : (lt1 115).mul t = ⟨t.a + t.c, t.b + t.d, t.c, t.d⟩ := by
  show tS1.mul t = _
  unfold tS1 Tb.mul
  simp
theorem lt1_t (t : Tb) : (lt1 116).mul t = ⟨-t.c, -t.d, t.a, t.b⟩ := by
  show tT1.mul t = _
  unfold tT1 Tb.mul
  simp
theorem Tb.one_mul (x : Tb) : Tb.one.mul x = x := by
  unfold Tb.one Tb.mul
  cases x
  simp
theorem Tb.mul_one (x : Tb) : x.mul .one = x := by
  unfold Tb.one Tb.mul
  cases x
  simp
theorem fold_mul (w : List Nat) : ∀ t : Tb, w.foldl (fun t c => (lt1 c).mul t) t = (tbl w).mul t := by
  induction w with
  | nil => exact fun t => (Tb.one_mul t).symm
  | cons c w ih =>
    intro t
    show w.foldl _ ((lt1 c).mul t) = (w.foldl _ ((lt1 c).mul .one)).mul t
    rw [ih, ih ((lt1 c).mul .one), Tb.mul_one, Tb.mul_as]
theorem tbl_app (u v : List Nat) : tbl (u ++ v) = (tbl v).mul (tbl u) := by
  unfold tbl
  rw [List.foldl_append, fold_mul]
  rfl
theorem tbl_snoc (u : List Nat) (c : Nat) : tbl (u ++ [c]) = (lt1 c).mul (tbl u) := by
  unfold tbl
  rw [List.foldl_append]
  rfl
theorem tbl_det (w : List Nat) : (tbl w).det = 1 := by
  induction w with
  | nil => decide
  | cons c w ih =>
    rw [show c :: w = [c] ++ w from rfl, tbl_app, Tb.mul_det, ih, tbl, List.foldl_cons, List.foldl_nil, Tb.mul_one, lt1_det]
    rfl
theorem tbl_le (w : List Nat) : (tbl w).Le (2 * w.length + 1) := by
  have : ∀ n, ∀ w : List Nat, w.length = n → (tbl w).Le (2 * n + 1) := fun n => by
    induction n with
    | zero =>
      intro w hw
      rw [List.eq_nil_of_length_eq_zero hw]
      exact ⟨by decide, by decide, by decide, by decide⟩
    | succ n ih =>
      intro w hw
      have hne : w ≠ [] := fun z => by subst z; simp at hw
      rw [← List.dropLast_concat_getLast hne, tbl_snoc]
      have := ih w.dropLast (by rw [List.length_dropLast, hw]; rfl)
      exact (Tb.mul_le (lt1_le _) this).mono (by omega)
  exact this _ w rfl
theorem St.app {u v : List Nat} (hu : St u) (hv : St v) : St (u ++ v) := fun c hc => (List.mem_append.mp hc).elim (hu c) (hv c)
theorem St.take {w : List Nat} (h : St w) (k : Nat) : St (w.take k) := fun c hc => h c (List.mem_of_mem_take hc)
theorem St.drop {w : List Nat} (h : St w) (k : Nat) : St (w.drop k) := fun c hc => h c (List.mem_of_mem_drop hc)
theorem St.take_ap {w : List Nat} {i : Nat} (hi : i < w.length) : w.take (i + 1) = w.take i ++ [w[i]] := by
  rw [List.take_add_one, List.getElem?_eq_getElem hi]
  rfl
/-! a text, often -/
theorem foldl_cps : ∀ (l : List (Array Nat)) (a : Array Nat), (l.foldl (· ++ ·) a).toList = a.toList ++ (l.map Array.toList).flatten
  | [], a => by simp
  | x :: l, a => by
    rw [List.foldl_cons, foldl_cps l, Array.toList_append, List.map_cons, List.flatten_cons, List.append_assoc]
theorem mul_tx (w : List Nat) (k : Nat) : Txt.mul (tx w) (k : Int) = tx (List.replicate k w).flatten := by
  apply tx_of
  unfold Txt.mul
  split
  · rename_i h
    have : k = 0 := by omega
    subst this
    rfl
  · split
    · rename_i h
      rw [tx_cps]
      rcases Bool.or_eq_true _ _ ▸ h with h | h
      · have : k = 1 := by
          have := eq_of_beq h
          omega
        subst this
        simp
      · have : w = [] := by
          have := eq_of_beq h
          rw [tx_len] at this
          exact List.eq_nil_of_length_eq_zero this
        subst this
        simp
    · show (List.foldl (· ++ ·) #[] (List.replicate (k : Int).toNat (tx w).cps)).toList = _
      rw [foldl_cps]
      simp [tx_cps]
theorem srep_tx {w : List Nat} {k : Nat} (h1 : w.length ≤ 100) (h2 : k ≤ 10000) : srep (.str (tx w)) (.int (k : Int)) = .ok (.str (tx (List.replicate k w).flatten)) := by
  unfold srep
  simp only
  rw [if_pos ⟨by rw [tx_len]; exact h1, by omega, by omega⟩, mul_tx]

theorem st_rep {c : Nat} (h : c = 115 ∨ c = 116) (k : Nat) : St (List.replicate k c) := fun d hd => by
  rw [List.eq_of_mem_replicate hd]
  exact h
theorem st_flat {ws : List (List Nat)} (h : ∀ w ∈ ws, St w) : St ws.flatten := fun c hc => by
  obtain ⟨w, hw, hc⟩ := List.mem_flatten.mp hc
  exact h w hw c hc
theorem join_tx (ws : List (List Nat)) : Txt.join "" (ws.map tx) = tx ws.flatten := by
  apply tx_of
  rw [join_cps, empty_cps, jl_nil, List.map_map]
  congr 1
  induction ws with
  | nil => rfl
  | cons w ws ih =>
    rw [List.map_cons, ih]
    show (tx w).cps.toList :: ws = _
    rw [tx_cps]
theorem sum_tx (ws : List (List Nat)) : ((ws.map tx).map (·.length)).sum = ws.flatten.length := by
  induction ws with
  | nil => rfl
  | cons w ws ih =>
    rw [List.map_cons, List.map_cons, List.sum_cons, ih, tx_len, List.flatten_cons, List.length_append]
theorem sp_is : ("s" : Str) = tx [115] := by decide +kernel
theorem tp_is : ("t" : Str) = tx [116] := by decide +kernel
theorem sst_is : ("sst" : Str) = tx [115, 115, 116] := by decide +kernel
theorem flat_rep1 (c k : Nat) : (List.replicate k [c]).flatten = List.replicate k c := by
  induction k with
  | zero => rfl
  | succ k ih => rw [List.replicate_succ, List.flatten_cons, ih]; rfl
theorem forL_exc {τ : TF} {s : SF} {r : Rv} {rs : List Rv} {ρ ρ1 ρ2 : Env} {c : Str} {p : Option (Str × PyData)} (h : τ r ρ = .ok ρ1) (h2 : s ρ1 = .exc c p ρ2) : forL τ s (r :: rs) ρ = .exc c p ρ2 := by
  rw [forL_cons h, h2]
theorem its_tx {f : EF} {ρ : Env} {w : List Nat} (h : f ρ = .ok (.v (.str (tx w)))) : itF itT f ρ = .ok (w.map fun c => Rv.v (.str (ch1 c))) := by
  rw [itF_e, h, ← tx_chars]
  rfl

/-! a word of a table: letters are taken off, the last one first -/
def Wd (es : List (List Nat)) : List Nat := es.reverse.flatten
theorem Wd_snoc (es : List (List Nat)) (e : List Nat) : Wd (es ++ [e]) = e ++ Wd es := by simp [Wd]
def Tb.B (k : Nat) (x : Tb) : Prop := x.a.natAbs ≤ k ∧ x.b.natAbs ≤ k ∧ x.c.natAbs ≤ k ∧ x.d.natAbs ≤ k
/-- where the loop stands: the table that is left, how many letters are off -/
inductive WoI : Tb → Nat → Prop
  | ini {x : Tb} (h : x.B 60) : WoI x 0
  | mid {x : Tb} (h : x.B 60) (h0 : x.a ≠ 0) (h1 : 0 ≤ x.a * x.c) : WoI x 1
  | run {x : Tb} {n : Nat} (e A C E : Int) (he : e = 1 ∨ e = -1) (ha : x.a = e * A) (hc : x.c = e * C) (hd : x.d = e * E) (h0 : 0 ≤ C) (h1 : C < A) (h2 : A ≤ 60) (h3 : 1 ≤ C → -(60 * C) ≤ E ∧ E ≤ 59 * C + 1) (h4 : C = 0 → x.b.natAbs ≤ 60) (hn : n + 3 * A ≤ 242) : WoI x n
theorem pos_of {q c : Int} (h : 0 < q * c) (hc : 0 < c) : 0 < q := by
  rcases Int.lt_or_le 0 q with hq | hq
  · exact hq
  · have := Int.mul_le_mul_of_nonneg_right hq (Int.le_of_lt hc)
    rw [Int.zero_mul] at this
    omega
theorem ceil_ok {a c : Int} (h : 0 < a * c) : ∃ q : Int, idiv (-a) c = .ok (.int (-q)) ∧ 1 ≤ q ∧ ((0 < c ∧ 0 < a ∧ 0 ≤ q * c - a ∧ q * c - a < c) ∨ (c < 0 ∧ a < 0 ∧ q * c - a ≤ 0 ∧ c < q * c - a)) ∨ (c.natAbs > 60) := by
  by_cases hb : c.natAbs > 60
  · exact ⟨0, .inr hb⟩
  by_cases hc : 0 < c
  · have ha : 0 < a := pos_of h hc
    have e1 : idiv (-a) c = .ok (.int (-a / c)) := idiv_s ⟨hc, by omega⟩
    have h1 := Int.emod_nonneg (-a) (show c ≠ 0 by omega)
    have h2 := Int.emod_lt_of_pos (-a) hc
    have h3 := Int.emod_def (-a) c
    have h4 : -(-a / c) * c = -(c * (-a / c)) := by rw [Int.neg_mul, Int.mul_comm]
    refine ⟨-(-a / c), .inl ⟨by rw [Int.neg_neg]; exact e1, ?_, .inl ⟨hc, ha, by omega, by omega⟩⟩⟩
    have h5 : 0 < -(-a / c) * c := by omega
    exact pos_of h5 hc
  · have hc0 : c ≠ 0 := fun z => by rw [z, Int.mul_zero] at h; omega
    have hcn : c < 0 := by omega
    have ha : a < 0 := by
      by_cases ha : a < 0
      · exact ha
      · have : a * c ≤ 0 := Int.mul_nonpos_of_nonneg_of_nonpos (by omega) (by omega)
        omega
    have e1 : idiv (-a) c = .ok (.int ((-a).fdiv c)) := by
      unfold idiv
      rw [if_neg (by omega), if_pos (by omega)]
    have e2 : (-a).fdiv c = a / (-c) := by
      rw [← Int.neg_fdiv_neg, Int.neg_neg, Int.fdiv_eq_ediv_of_nonneg _ (by omega)]
    have h1 := Int.emod_nonneg a (show -c ≠ 0 by omega)
    have h2 := Int.emod_lt_of_pos a (show 0 < -c by omega)
    have h3 := Int.emod_def a (-c)
    have h4 : -(a / -c) * c = -c * (a / -c) := by rw [Int.neg_mul, Int.neg_mul, Int.mul_comm]
    refine ⟨-(a / -c), .inl ⟨by rw [Int.neg_neg, e1, e2], ?_, .inr ⟨hcn, ha, by omega, by omega⟩⟩⟩
    have h5 : 0 < -(a / -c) * -c := by
      rw [Int.mul_neg]
      omega
    exact pos_of h5 (by omega)

def woIn : SF := (seqS (ifS (tstF (binF gtR (binF (flat2 (int2 imul)) (varF 3) (varF 5)) (cF (.int 0)))) (seqS (asgS (unF negR (binF (flat2 (int2 idiv)) (unF negR (varF 3)) (varF 5))) (asgn 7))
  (seqS (appS 2 (binF (flat2 srep) (cF (.str "s")) (varF 7)))
  (parS 3 4 (aCons (binF (flat2 (int2 isub)) (varF 3) (binF (flat2 (int2 imul)) (varF 7) (varF 5))) (aCons (binF (flat2 (int2 isub)) (varF 4) (binF (flat2 (int2 imul)) (varF 7) (varF 6))) aNil)))))
  skipS)
  (seqS (appS 2 (cF (.str "t")))
  (asgS (tupF (aCons (varF 5) (aCons (varF 6) (aCons (unF negR (varF 3)) (aCons (unF negR (varF 4)) aNil))))) (unpT [asgn 3, asgn 4, asgn 5, asgn 6]))))
def woL (es : List (List Nat)) : List PyData := es.map fun w => .str (tx w)
theorem woL_snoc (es : List (List Nat)) (e : List Nat) : woL es ++ [.str (tx e)] = woL (es ++ [e]) := by simp [woL]
theorem woL_len (es : List (List Nat)) : (woL es).length = es.length := by simp [woL]
def woEnv (s0 s1 : Sl) (es : List (List Nat)) (x : Tb) (s7 : Sl) : Env := [s0, s1, .o (woL es), .v (.int x.a), .v (.int x.b), .v (.int x.c), .v (.int x.d), s7]
/-- what is left when a t, or some s and a t, are taken off -/
def offT (x : Tb) : Tb := ⟨x.c, x.d, -x.a, -x.b⟩
def offS (q : Int) (x : Tb) : Tb := ⟨x.a - q * x.c, x.b - q * x.d, x.c, x.d⟩
theorem offT_ok (x : Tb) : (lt1 116).mul (offT x) = x := by
  rw [lt1_t]
  cases x
  simp [offT]
theorem tbl_s : ∀ n : Nat, tbl (List.replicate n 115) = ⟨1, n, 0, 1⟩
  | 0 => rfl
  | n + 1 => by
    rw [List.replicate_succ', tbl_snoc, tbl_s n, lt1_s]
    simp
theorem offS_ok (q : Nat) (x : Tb) : (tbl (List.replicate q 115)).mul (offS q x) = x := by
  rw [tbl_s]
  cases x
  unfold Tb.mul offS
  simp only [Tb.mk.injEq]
  refine ⟨?_, ?_, ?_, ?_⟩ <;> grind
theorem app_go {i : Nat} {f : EF} {ρ : Env} {xs : List PyData} {d : PyData} (hs : slot ρ i = .o xs) (hf : f ρ = .ok (.v d)) (hl : xs.length < 100000) : appS i f ρ = .next (ρ.set i (.o (xs ++ [d]))) := by
  rw [appS_e hs hl, hf]
  rfl
theorem t_st : St [116] := fun c hc => by simp at hc; exact .inr hc
/-- nothing but a t -/
theorem wo_t {s0 s1 s7 : Sl} {es : List (List Nat)} {x : Tb} (h : ¬ 0 < x.a * x.c) (hb : x.a.natAbs ≤ 60) (hl : es.length < 1000) : woIn (woEnv s0 s1 es x s7) = .next (woEnv s0 s1 (es ++ [[116]]) (offT x) s7) := by
  have m : imul x.a x.c = .ok (.int (x.a * x.c)) := imul_l (by omega)
  have a1 := app_go (i := 2) (f := cF (.str "t")) (ρ := woEnv s0 s1 es x s7) (xs := woL es) (d := .str (tx [116])) rfl (by rw [← tp_is]; rfl) (by rw [woL_len]; omega)
  rw [woL_snoc] at a1
  unfold woIn
  rw [seq_go (ρ' := woEnv s0 s1 es x s7) (by unfold woEnv; simp [m, h])]
  rw [seq_go a1]
  unfold woEnv offT
  simp
/-- some s and a t -/
theorem srep_s {q : Nat} (hq : q ≤ 60) : srep (.str "s") (.int q) = .ok (.str (tx (List.replicate q 115))) := by
  have := srep_tx (w := [115]) (k := q) (by decide) (by omega)
  rw [flat_rep1] at this
  rw [sp_is]
  exact this
theorem wo_s0 {s0 s1 : Sl} {es : List (List Nat)} {x : Tb} {q : Nat} (hq : q ≤ 60) (hl : es.length < 1000) : appS 2 (binF (flat2 srep) (cF (.str "s")) (varF 7)) (woEnv s0 s1 es x (.v (.int q))) = .next (woEnv s0 s1 (es ++ [List.replicate q 115]) x (.v (.int q))) := by
  have r1 := srep_s hq
  have a0 := app_go (i := 2) (f := binF (flat2 srep) (cF (.str "s")) (varF 7)) (ρ := woEnv s0 s1 es x (.v (.int q))) (xs := woL es) (d := .str (tx (List.replicate q 115))) rfl (by
    show (flat2 srep) (.v (.str "s")) (.v (.int q)) = _
    rw [flat2_e srep (dat_v _) (dat_v _), r1]
    rfl) (by rw [woL_len]; omega)
  rw [woL_snoc] at a0
  exact a0
theorem parS_go {i j : Nat} {r : AF} {ρ : Env} {a b : PyData} (h : r ρ = .ok [.v a, .v b]) : parS i j r ρ = liftE ρ ((asgn i (.v a) ρ).bind fun ρ' => asgn j (.v b) ρ') := by
  unfold parS
  rw [h]
theorem small_l {i : Int} (h : i.natAbs ≤ 60) : -(2 ^ 64) < i ∧ i < 2 ^ 64 := by omega
theorem wo_s1 {s0 s1 : Sl} {es : List (List Nat)} {x : Tb} {q : Nat} (hq : q ≤ 60) : (parS 3 4 (aCons (binF (flat2 (int2 isub)) (varF 3) (binF (flat2 (int2 imul)) (varF 7) (varF 5))) (aCons (binF (flat2 (int2 isub)) (varF 4) (binF (flat2 (int2 imul)) (varF 7) (varF 6))) aNil))) (woEnv s0 s1 es x (.v (.int q))) = .next (woEnv s0 s1 es (offS q x) (.v (.int q))) := by
  have hs := small_l (i := (q : Int)) (by rw [Int.natAbs_natCast]; exact hq)
  have m1 : imul q x.c = .ok (.int (q * x.c)) := imul_l hs
  have m2 : imul q x.d = .ok (.int (q * x.d)) := imul_l hs
  have e : (aCons (binF (flat2 (int2 isub)) (varF 3) (binF (flat2 (int2 imul)) (varF 7) (varF 5))) (aCons (binF (flat2 (int2 isub)) (varF 4) (binF (flat2 (int2 imul)) (varF 7) (varF 6))) aNil)) (woEnv s0 s1 es x (.v (.int q))) = .ok [.v (.int (x.a - q * x.c)), .v (.int (x.b - q * x.d))] := by
    unfold woEnv
    simp [m1, m2]
  rw [parS_go e]
  rfl
theorem wo_s {s0 s1 s7 : Sl} {es : List (List Nat)} {x : Tb} {q : Nat} (h : 0 < x.a * x.c) (e : idiv (-x.a) x.c = .ok (.int (-(q : Int)))) (hb : x.a.natAbs ≤ 60) (hq : q ≤ 60) (hl : es.length < 900) : woIn (woEnv s0 s1 es x s7) = .next (woEnv s0 s1 (es ++ [List.replicate q 115] ++ [[116]]) (offT (offS q x)) (.v (.int q))) := by
  have m : imul x.a x.c = .ok (.int (x.a * x.c)) := imul_l (by omega)
  have a1 := app_go (i := 2) (f := cF (.str "t")) (ρ := woEnv s0 s1 (es ++ [List.replicate q 115]) (offS q x) (.v (.int q))) (xs := woL (es ++ [List.replicate q 115])) (d := .str (tx [116])) rfl (by rw [← tp_is]; rfl) (by rw [woL_len, List.length_append, List.length_singleton]; omega)
  rw [woL_snoc] at a1
  have z : tstF (binF gtR (binF (flat2 (int2 imul)) (varF 3) (varF 5)) (cF (.int 0))) (woEnv s0 s1 es x s7) = .ok true := by
    unfold woEnv
    simp [m, h]
  have y : (asgS (unF negR (binF (flat2 (int2 idiv)) (unF negR (varF 3)) (varF 5))) (asgn 7)) (woEnv s0 s1 es x s7) = .next (woEnv s0 s1 es x (.v (.int q))) := by
    unfold woEnv
    simp [e]
  unfold woIn
  rw [seq_go (ρ' := woEnv s0 s1 (es ++ [List.replicate q 115]) (offS q x) (.v (.int q))) (by
    rw [ifS_e, z]
    show (seqS _ (seqS _ _)) (woEnv s0 s1 es x s7) = _
    rw [seq_go y, seq_go (wo_s0 hq (by omega))]
    exact wo_s1 hq)]
  rw [seq_go a1]
  unfold woEnv offT
  simp
/-- the loop's invariant is kept -/
theorem sg_sq {e x y : Int} (he : e = 1 ∨ e = -1) : e * x * (e * y) = x * y := by
  rcases he with rfl | rfl <;> grind
theorem wo_run {x : Tb} {q : Nat} {e A C E R : Int} (he : e = 1 ∨ e = -1) (hA : x.a = e * A) (hC : x.c = e * C) (hE : x.d = e * E) (hd : x.det = 1) (hR : q * C = A + R) (h0 : 0 ≤ R) (h1 : R < C) (h3 : -(60 * C) ≤ E ∧ E ≤ 59 * C + 1) (hC60 : C ≤ 60) {n : Nat} (hn : n + 3 * C ≤ 242) : WoI (offT (offS q x)) n := by
  have hdet : (offT (offS q x)).det = 1 := by
    have := congrArg Tb.det (offT_ok (offS q x))
    rw [Tb.mul_det, lt1_det] at this
    have h2 := congrArg Tb.det (offS_ok q x)
    rw [Tb.mul_det, tbl_det, hd] at h2
    omega
  have ee : e * e = 1 := by rcases he with rfl | rfl <;> rfl
  have hc' : (offT (offS q x)).c = e * R := by
    show -(x.a - q * x.c) = e * R
    rw [hA, hC]
    have : (q : Int) * (e * C) = e * (q * C) := by grind
    rw [this, hR]
    grind
  have ha' : (offT (offS q x)).a = e * C := hC
  obtain ⟨E', hE'⟩ : ∃ E', (offT (offS q x)).d = e * E' := ⟨e * (offT (offS q x)).d, by rw [← Int.mul_assoc, ee, Int.one_mul]⟩
  have hb' : (offT (offS q x)).b = e * E := hE
  have hk : C * E' = E * R + 1 := by
    unfold Tb.det at hdet
    rw [ha', hc', hE', hb', sg_sq he, sg_sq he] at hdet
    omega
  have hCp : 0 < C := by omega
  refine .run e C R E' he ha' hc' hE' h0 h1 hC60 (fun hR1 => ⟨?_, ?_⟩) (fun hR0 => ?_) hn
  · have b1 : -(60 * C) * R ≤ E * R := Int.mul_le_mul_of_nonneg_right h3.1 h0
    have b2 : C * (-(60 * R) - 1) < C * E' := by
      rw [hk]
      have : C * (-(60 * R) - 1) = -(60 * C) * R - C := by grind
      omega
    have := Int.lt_of_mul_lt_mul_left b2 (Int.le_of_lt hCp)
    omega
  · have b1 : E * R ≤ (59 * C + 1) * R := Int.mul_le_mul_of_nonneg_right h3.2 h0
    have b2 : C * E' ≤ C * (59 * R + 1) := by
      rw [hk]
      have : (59 * C + 1) * R = C * (59 * R) + R := by grind
      have h4 : C * (59 * R + 1) = C * (59 * R) + C := by grind
      omega
    exact Int.le_of_mul_le_mul_left b2 hCp
  · subst hR0
    rw [Int.mul_zero] at hk
    have h5 : C = 1 := by
      have h6 : 0 < E' := by
        rcases Int.lt_or_le 0 E' with z | z
        · exact z
        · have := Int.mul_le_mul_of_nonneg_left z (Int.le_of_lt hCp)
          rw [Int.mul_zero] at this
          omega
      have h7 : C * 1 ≤ C * E' := Int.mul_le_mul_of_nonneg_left (by omega) (Int.le_of_lt hCp)
      omega
    subst h5
    rw [hb']
    rcases he with rfl | rfl <;> omega
def woMu (ρ : Env) : Nat := match slot ρ 3, slot ρ 5 with
  | .v (.int a), .v (.int c) => if c = 0 then 0 else if 0 < a * c then (if c.natAbs < a.natAbs then c.natAbs else 100 + c.natAbs) else 1000
  | _, _ => 0
theorem woMu_e (s0 s1 s7 : Sl) (es : List (List Nat)) (x : Tb) : woMu (woEnv s0 s1 es x s7) = if x.c = 0 then 0 else if 0 < x.a * x.c then (if x.c.natAbs < x.a.natAbs then x.c.natAbs else 100 + x.c.natAbs) else 1000 := rfl
theorem WoI.ac {x : Tb} {n : Nat} (h : WoI x n) : x.a.natAbs ≤ 60 ∧ x.c.natAbs ≤ 60 ∧ n ≤ 242 := by
  cases h with
  | ini h => exact ⟨h.1, h.2.2.1, by decide⟩
  | mid h _ _ => exact ⟨h.1, h.2.2.1, by decide⟩
  | run e A C E he ha hc hd h0 h1 h2 h3 h4 hn =>
    refine ⟨?_, ?_, by omega⟩
    · rw [ha]; rcases he with rfl | rfl <;> omega
    · rw [hc]; rcases he with rfl | rfl <;> omega
theorem wo_pos {x : Tb} {n q : Nat} (hi : WoI x n) (hd : x.det = 1) (hq1 : 1 ≤ q) (hq60 : q ≤ 60) (h : 0 < x.a * x.c) (hs : (0 < x.c ∧ 0 < x.a ∧ 0 ≤ q * x.c - x.a ∧ q * x.c - x.a < x.c) ∨ (x.c < 0 ∧ x.a < 0 ∧ q * x.c - x.a ≤ 0 ∧ x.c < q * x.c - x.a)) : WoI (offT (offS q x)) (n + q + 1) := by
  obtain ⟨e, he, A, C, E, R, hA, hC, hE, hR, h0, h1, hAp⟩ : ∃ e : Int, (e = 1 ∨ e = -1) ∧ ∃ A C E R : Int, x.a = e * A ∧ x.c = e * C ∧ x.d = e * E ∧ q * C = A + R ∧ 0 ≤ R ∧ R < C ∧ 0 < A := by
    rcases hs with ⟨a1, a2, a3, a4⟩ | ⟨a1, a2, a3, a4⟩
    · exact ⟨1, .inl rfl, x.a, x.c, x.d, q * x.c - x.a, by omega, by omega, by omega, by omega, a3, a4, a2⟩
    · have : (q : Int) * -x.c = -(q * x.c) := Int.mul_neg _ _
      exact ⟨-1, .inr rfl, -x.a, -x.c, -x.d, -(q * x.c - x.a), by omega, by omega, by omega, by omega, by omega, by omega, by omega⟩
  have hac := hi.ac
  have hCb : C ≤ 60 := by
    have := hac.2.1
    rw [hC] at this
    rcases he with rfl | rfl <;> omega
  cases hi with
  | ini hb =>
    refine wo_run he hA hC hE hd hR h0 h1 ?_ hCb (by omega)
    have := hb.2.2.2
    rw [hE] at this
    rcases he with rfl | rfl <;> omega
  | mid hb _ _ =>
    refine wo_run he hA hC hE hd hR h0 h1 ?_ hCb (by omega)
    have := hb.2.2.2
    rw [hE] at this
    rcases he with rfl | rfl <;> omega
  | run e' A' C' E' he' ha' hc' hd' h0' h1' h2' h3' h4' hn' =>
    have hee : e' = e := by
      have z1 : 0 < C := by omega
      rcases he with rfl | rfl <;> rcases he' with rfl | rfl <;> first | rfl | omega
    subst hee
    have eA : A' = A := by rcases he with rfl | rfl <;> omega
    have eC : C' = C := by rcases he with rfl | rfl <;> omega
    have eE : E' = E := by rcases he with rfl | rfl <;> omega
    subst eA eC eE
    refine wo_run he hA hC hE hd hR h0 h1 (h3' (by omega)) hCb ?_
    obtain ⟨k, hk⟩ : ∃ k : Nat, q = 2 + k := by
      refine ⟨q - 2, ?_⟩
      have : q ≠ 1 := fun z => by
        subst z
        omega
      omega
    have e1 : (q : Int) * C' = 2 * C' + k * C' := by
      rw [hk, Int.natCast_add, Int.add_mul]
      rfl
    have e2 : (k : Int) * 1 ≤ k * C' := Int.mul_le_mul_of_nonneg_left (by omega) (by omega)
    omega
def woInv (s0 s1 : Sl) (M : Tb) (ρ : Env) : Prop := ∃ es x n s7, ρ = woEnv s0 s1 es x s7 ∧ x.det = 1 ∧ WoI x n ∧ (Wd es).length = n ∧ es.length ≤ n ∧ St (Wd es) ∧ (tbl (Wd es)).mul x = M
theorem wo_step {s0 s1 s7 : Sl} {M x : Tb} {es : List (List Nat)} {n : Nat} (hd : x.det = 1) (hi : WoI x n) (hl : (Wd es).length = n) (hl2 : es.length ≤ n) (hst : St (Wd es)) (hM : (tbl (Wd es)).mul x = M) (hc : x.c ≠ 0) :
    ∃ ρ', woIn (woEnv s0 s1 es x s7) = .next ρ' ∧ woInv s0 s1 M ρ' ∧ woMu ρ' < woMu (woEnv s0 s1 es x s7) := by
  have hac := hi.ac
  by_cases h : 0 < x.a * x.c
  · obtain ⟨q, hq | hq⟩ := ceil_ok h
    · obtain ⟨e, hq1, hs⟩ := hq
      obtain ⟨m, rfl⟩ : ∃ m : Nat, q = m := ⟨q.toNat, by omega⟩
      have hm60 : m ≤ 60 := by
        rcases hs with ⟨a1, a2, a3, a4⟩ | ⟨a1, a2, a3, a4⟩
        · have e1 : ((m : Int) - 1) * 1 ≤ (m - 1) * x.c := Int.mul_le_mul_of_nonneg_left (by omega) (by omega)
          have e2 : ((m : Int) - 1) * x.c = m * x.c - x.c := by rw [Int.sub_mul, Int.one_mul]
          omega
        · have e1 : ((m : Int) - 1) * 1 ≤ (m - 1) * -x.c := Int.mul_le_mul_of_nonneg_left (by omega) (by omega)
          have e2 : ((m : Int) - 1) * -x.c = -(m * x.c) + x.c := by rw [Int.mul_neg, Int.sub_mul, Int.one_mul]; omega
          omega
      have hrun := wo_pos hi hd (by omega) hm60 h hs
      refine ⟨_, wo_s h e hac.1 hm60 (by omega), ⟨_, _, n + m + 1, _, rfl, ?_, hrun, ?_, ?_, ?_, ?_⟩, ?_⟩
      · have h1 := congrArg Tb.det (offT_ok (offS m x))
        rw [Tb.mul_det, lt1_det] at h1
        have h2 := congrArg Tb.det (offS_ok m x)
        rw [Tb.mul_det, tbl_det, hd] at h2
        omega
      · rw [Wd_snoc, Wd_snoc, List.length_append, List.length_append, List.length_replicate, hl, List.length_singleton]
        omega
      · rw [List.length_append, List.length_append, List.length_singleton, List.length_singleton]
        omega
      · rw [Wd_snoc, Wd_snoc]
        exact t_st.app ((st_rep (.inl rfl) _).app hst)
      · rw [Wd_snoc, Wd_snoc, tbl_app, tbl_app, Tb.mul_as, show tbl [116] = lt1 116 from Tb.mul_one _, Tb.mul_as, offT_ok, offS_ok, hM]
      · rw [woMu_e, woMu_e, if_neg hc, if_pos h]
        have ha' : (offT (offS m x)).a = x.c := rfl
        have hc' : (offT (offS m x)).c = m * x.c - x.a := by
          show -(x.a - m * x.c) = _
          omega
        rw [ha', hc']
        have hlt : ((m : Int) * x.c - x.a).natAbs < x.c.natAbs := by omega
        split
        · split <;> omega
        · rename_i hne
          have hpos : 0 < x.c * (m * x.c - x.a) := by
            rcases hs with ⟨a1, a2, a3, a4⟩ | ⟨a1, a2, a3, a4⟩
            · exact Int.mul_pos a1 (by omega)
            · exact Int.mul_pos_of_neg_of_neg a1 (by omega)
          (try rw [if_pos hpos])
          (try rw [if_pos hlt])
          split <;> omega
    · omega
  · have stay : WoI (offT x) (n + 1) ∧ x.a * x.c ≤ 0 := by
      cases hi with
      | ini hb =>
        refine ⟨.mid ⟨hb.2.2.1, hb.2.2.2, by rw [show (offT x).c = -x.a from rfl, Int.natAbs_neg]; exact hb.1, by rw [show (offT x).d = -x.b from rfl, Int.natAbs_neg]; exact hb.2.1⟩ hc ?_, by omega⟩
        show 0 ≤ x.c * -x.a
        rw [Int.mul_neg, Int.mul_comm]
        omega
      | mid hb ha h1 =>
        have : x.a * x.c = 0 := by omega
        rcases Int.mul_eq_zero.mp this with z | z
        · exact absurd z ha
        · exact absurd z hc
      | run e A C E he ha hc' hd' h0 h1 h2 h3 h4 hn =>
        exfalso
        apply h
        rw [ha, hc', sg_sq he]
        have : C ≠ 0 := fun z => hc (by rw [hc', z, Int.mul_zero])
        exact Int.mul_pos (by omega) (by omega)
    refine ⟨_, wo_t h hac.1 (by omega), ⟨_, _, n + 1, _, rfl, ?_, stay.1, ?_, ?_, ?_, ?_⟩, ?_⟩
    · have h1 := congrArg Tb.det (offT_ok x)
      rw [Tb.mul_det, lt1_det, hd] at h1
      omega
    · rw [Wd_snoc, List.length_append, hl, List.length_singleton]
      omega
    · rw [List.length_append, List.length_singleton]
      omega
    · rw [Wd_snoc]
      exact t_st.app hst
    · rw [Wd_snoc, tbl_app, Tb.mul_as, show tbl [116] = lt1 116 from Tb.mul_one _, offT_ok, hM]
    · rw [woMu_e, woMu_e, if_neg hc, if_neg h]
      have ha' : (offT x).a = x.c := rfl
      have hc' : (offT x).c = -x.a := rfl
      rw [ha', hc']
      split
      · omega
      · rename_i hne
        have hpos : 0 < x.c * -x.a := by
          have h3 : x.c * -x.a ≠ 0 := fun z => by
            rcases Int.mul_eq_zero.mp z with z | z
            · exact hc z
            · exact hne z
          have h4 : x.c * -x.a = -(x.a * x.c) := by rw [Int.mul_neg, Int.mul_comm]
          omega
        rw [if_pos hpos]
        split <;> omega
theorem wo_loop {s0 s1 : Sl} {M : Tb} (hd : M.det = 1) (hb : M.B 60) : ∃ ρ', whileS (tstF (binF neR (varF 5) (cF (.int 0)))) woIn (woEnv s0 s1 [] M .u) = .next ρ' ∧ ∃ es x n s7, ρ' = woEnv s0 s1 es x s7 ∧ x.det = 1 ∧ x.c = 0 ∧ x.b.natAbs ≤ 60 ∧ (Wd es).length = n ∧ es.length ≤ n ∧ n ≤ 242 ∧ St (Wd es) ∧ (tbl (Wd es)).mul x = M := by
  obtain ⟨ρ', e, ⟨es, x, n, s7, eρ, h1, h2, h3, h4, h5, h6⟩, ht⟩ := whileS_go (t := tstF (binF neR (varF 5) (cF (.int 0)))) (s := woIn) (ρ := woEnv s0 s1 [] M .u) (woInv s0 s1 M) woMu
    ⟨[], M, 0, .u, rfl, hd, .ini hb, rfl, Nat.le_refl _, (fun c hc => nomatch hc), Tb.one_mul M⟩ (by
      rw [woMu_e]
      have := hb.2.2.1
      split
      · decide
      · split
        · split <;> omega
        · decide) fun ρ ⟨es, x, n, s7, eρ, h1, h2, h3, h4, h5, h6⟩ => by
      subst eρ
      refine ⟨decide (¬ x.c = 0), by unfold woEnv; simp, fun hbb => ?_⟩
      have hc : x.c ≠ 0 := by simpa using hbb
      exact wo_step h1 h2 h3 h4 h5 h6 hc
  subst eρ
  have hc : x.c = 0 := by
    unfold woEnv at ht
    simp at ht
    exact ht
  refine ⟨_, e, es, x, n, s7, rfl, h1, hc, ?_, h3, h4, h2.ac.2.2, h5, h6⟩
  cases h2 with
  | ini h => exact h.2.1
  | mid h _ _ => exact h.2.1
  | run e A C E he ha hc' hd' h0 h1 h2 h3 h4 hn =>
    refine h4 ?_
    rw [hc] at hc'
    rcases he with rfl | rfl <;> omega

/-- the upper row of the sheared sheet -/
def shr (n : Nat) (p q : List Nat) : List Nat := rowOf n fun x => ap q (ap (bk n p) x)
theorem shr_pm {n : Nat} {p q : List Nat} (hp : Pm p n) (hq : Pm q n) : Pm (shr n p q) n :=
  pm_rowOf (fun x hx => hq.ap_lt ((bk_pm hp).ap_lt hx)) fun x y hx hy e => (bk_pm hp).ap_inj hx hy (hq.ap_inj ((bk_pm hp).ap_lt hx) ((bk_pm hp).ap_lt hy) e)
theorem sheared_ok {p q : List Nat} {n : Nat} (hp : Pm p n) (hq : Pm q n) (hn : n ≤ 1000) : f_sheared [.v (sheet p q)] = .ret (.v (sheet p (shr n p q))) := by
  refine fnR_of ?_
  show b_sheared [.v (sheet p q), .u, .u, .u, .u] = _
  have e1 := back_row_ok hp hn
  have hb := bk_pm hp
  have e2 : lcF (itF itC (varF 1)) (asgn 4) [4] yesT (binF ixR (varF 3) (varF 4)) [.v (sheet p q), .v (.tuple (nD (bk n p))), .v (.tuple (nD p)), .v (.tuple (nD q)), .u] = .ok (.o (nD (shr n p q))) := by
    rw [lcF_map (bk n p) (fun n : Nat => Rv.v (.int (n : Int))) (fun x : Nat => .int (ap q x : Nat)) (by simp [nD]) (by rw [hb.len]; omega) fun x hx => ⟨[.v (sheet p q), .v (.tuple (nD (bk n p))), .v (.tuple (nD p)), .v (.tuple (nD q)), .v (.int x)], .v (.int (ap q x : Nat)), by simp, by
      have := ix_rowT (a := q) (x := x) (by rw [hq.len]; exact hb.lt x hx)
      simp [this], rfl⟩]
    have : (bk n p).map (ap q) = shr n p q := row_ext (m := n) (by simp [hb.len]) (by simp [shr]) fun x hx => by
      unfold shr
      rw [ap_rowOf hx]
      exact ap_of (by rw [List.getElem?_map, hb.get hx]; rfl)
    rw [← this]
    simp [nD]
  unfold b_sheared
  simp [unp_sheet, e1, e2, sheet_e]
theorem turned_ok {p q : List Nat} {n : Nat} (hq : Pm q n) (hn : n ≤ 1000) : f_turned [.v (sheet p q)] = .ret (.v (sheet (bk n q) p)) := by
  refine fnR_of ?_
  show b_turned [.v (sheet p q), .u, .u] = _
  have e1 := back_row_ok hq hn
  unfold b_turned
  simp [unp_sheet, e1, sheet_e]

def cwInn : SF := (ifS (tstF (binF (inR true) (varF 1) (cF (.str "st")))) badS
  skipS)
theorem cw_gon {s0 : Sl} : ∀ (u : List Nat) (x : Sl), St u → ∃ x', forL (asgn 1) cwInn (u.map (fun c => Rv.v (.str (ch1 c)))) [s0, x] = .next [s0, x']
  | [], x, _ => ⟨x, rfl⟩
  | c :: u, x, h => by
    obtain ⟨x', e⟩ := cw_gon (s0 := s0) u (.v (.str (ch1 c))) fun d hd => h d (List.mem_cons_of_mem _ hd)
    refine ⟨x', ?_⟩
    have st : cwInn [s0, .v (.str (ch1 c))] = .next [s0, .v (.str (ch1 c))] := by
      unfold cwInn
      simp [in_st (h c List.mem_cons_self)]
    rw [List.map_cons, forL_next rfl st]
    exact e
theorem check_word3_ok {w : List Nat} (h : St w) (hl : w.length ≤ 1000) : f_check_word_3 [.v (.str (tx w))] = .ret (.v .none) := by
  obtain ⟨x', e⟩ := cw_gon (s0 := .v (.str (tx w))) w .u h
  refine fnR_none (ρ := [.v (.str (tx w)), x']) ?_
  show (seqS _ (forS (itF itT (varF 0)) (asgn 1) cwInn)) [.v (.str (tx w)), .u] = _
  have z : ¬ (1000 : Int) < w.length := by omega
  rw [seq_go (ρ' := [.v (.str (tx w)), .u]) (by simp [len_tx (w := w) (by omega), z])]
  rw [forS_e, its_tx rfl]
  exact e
/-- a sheet moved by a word -/
def mvP (n : Nat) (s : List Nat × List Nat) (c : Nat) : List Nat × List Nat := if c = 115 then (s.1, shr n s.1 s.2) else (bk n s.2, s.1)
def mvW (n : Nat) (s : List Nat × List Nat) (w : List Nat) : List Nat × List Nat := w.foldl (mvP n) s
theorem mvP_pm {n c : Nat} {s : List Nat × List Nat} (h : Pm s.1 n ∧ Pm s.2 n) : Pm (mvP n s c).1 n ∧ Pm (mvP n s c).2 n := by
  unfold mvP
  split
  · exact ⟨h.1, shr_pm h.1 h.2⟩
  · exact ⟨bk_pm h.2, h.1⟩
theorem mvW_pm {n : Nat} (w : List Nat) : ∀ {s : List Nat × List Nat}, Pm s.1 n ∧ Pm s.2 n → Pm (mvW n s w).1 n ∧ Pm (mvW n s w).2 n := by
  induction w with
  | nil => exact fun h => h
  | cons c w ih => exact fun h => ih (mvP_pm h)
def mvIn : SF := (ifS (tstF (binF eqR (varF 2) (cF (.str "s")))) (asgS (callF f_sheared (aCons (varF 0) aNil)) (asgn 0))
  (asgS (callF f_turned (aCons (varF 0) aNil)) (asgn 0)))
theorem mv_loop {n : Nat} {s1 : Sl} (hn : n ≤ 1000) : ∀ (w : List Nat) (s : List Nat × List Nat) (x : Sl), St w → Pm s.1 n ∧ Pm s.2 n → ∃ x', forL (asgn 2) mvIn (w.map fun c => Rv.v (.str (ch1 c))) [.v (sheet s.1 s.2), s1, x] = .next [.v (sheet (mvW n s w).1 (mvW n s w).2), s1, x']
  | [], s, x, _, _ => ⟨x, rfl⟩
  | c :: w, s, x, h, hp => by
    have hc := h c List.mem_cons_self
    obtain ⟨x', e⟩ := mv_loop (s1 := s1) hn w (mvP n s c) (.v (.str (ch1 c))) (fun d hd => h d (List.mem_cons_of_mem _ hd)) (mvP_pm hp)
    refine ⟨x', ?_⟩
    have eq := is_s hc
    rw [List.map_cons, forL_next (ρ2 := [.v (sheet (mvP n s c).1 (mvP n s c).2), s1, .v (.str (ch1 c))]) rfl (by
      show mvIn [.v (sheet s.1 s.2), s1, .v (.str (ch1 c))] = _
      unfold mvIn mvP
      have e1 := sheared_ok hp.1 hp.2 hn
      have e2 := turned_ok (p := s.1) hp.2 hn
      rcases hc with rfl | rfl
      · simp [eq, e1]
      · simp [eq, e2])]
    exact e
theorem moved3_ok {p q w : List Nat} {n : Nat} (hp : Pm p n) (hq : Pm q n) (hn : n ≤ 1000) (hw : St w) (hl : w.length ≤ 1000) : f_moved_3 [.v (sheet p q), .v (.str (tx w))] = .ret (.v (sheet (mvW n (p, q) w).1 (mvW n (p, q) w).2)) := by
  have e0 := check_word3_ok hw hl
  obtain ⟨x', e⟩ := mv_loop (s1 := .v (.str (tx w))) hn w (p, q) .u hw ⟨hp, hq⟩
  refine fnR_of ?_
  show (seqS _ (seqS (forS (itF itT (varF 1)) (asgn 2) mvIn) _)) [.v (sheet p q), .v (.str (tx w)), .u] = _
  rw [seq_go (ρ' := [.v (sheet p q), .v (.str (tx w)), .u]) (by simp [e0])]
  rw [seq_go (by rw [forS_e, its_tx rfl]; exact e)]
  simp

/-! a row, a word by one number's figures -/
def ryBody : SF := (seqS (appM 3 (popAtM 2 (binF (flat2 (int2 imod)) (varF 0) (unF lenR (varF 2)))))
  (asgS (binF (flat2 (int2 idiv)) (varF 0) (binF addR (unF lenR (varF 2)) (cF (.int 1)))) (asgn 0)))
def ryEnv (c : Int) (m : Nat) (left row : List Nat) : Env := [.v (.int c), .v (.int m), .o (nD left), .o (nD row)]
theorem ry_step (c : Int) (m : Nat) (left row : List Nat) (hl : left.length < 100000) (hp : 0 < left.length) (hr : row.length < 100000) : ∃ j : Nat, ∃ h : j < left.length, ∃ c' : Int,
    ryBody (ryEnv c m left row) = .next (ryEnv c' m (left.eraseIdx j) (row ++ [left[j]])) := by
  have hmod : imod c (left.length : Int) = .ok (.int (c % left.length)) := imod_s (by omega)
  have h0 : 0 ≤ c % (left.length : Int) := Int.emod_nonneg _ (by omega)
  have h1 : c % (left.length : Int) < left.length := Int.emod_lt_of_pos _ (by omega)
  generalize hz : c % (left.length : Int) = z at *
  obtain ⟨j, rfl⟩ := Int.eq_ofNat_of_zero_le h0
  have hj : j < left.length := by omega
  have hg : (nD left)[j]? = some (.int (left[j] : Nat)) := by simp [nD, hj]
  have hin : (j : Int) < 1000000 := by omega
  have hd : (nD left).eraseIdx j = nD (left.eraseIdx j) := erase_map _ _ _
  have hel : (left.eraseIdx j).length < 100000 := by
    have := List.length_eraseIdx_le left j
    omega
  obtain ⟨c3, hc3⟩ : ∃ c3 : Int, idiv c (((left.eraseIdx j).length : Int) + 1) = .ok (.int c3) := ⟨_, idiv_s (by omega)⟩
  refine ⟨j, hj, c3, ?_⟩
  unfold ryBody
  rw [seq_go (ρ' := ryEnv c m (left.eraseIdx j) (row ++ [left[j]])) (by
    unfold ryEnv appM popAtM
    simp [hmod, hg, hin, hj, hr, hd, nD_app, nD_one])]
  generalize left.eraseIdx j = l2 at *
  unfold ryEnv
  simp [hc3]
theorem pow1060 : ∃ T : Int, 0 < T ∧ ipow 10 60 = .ok (.int T) := by
  refine ⟨10 ^ 60, by decide, ?_⟩
  unfold ipow
  rw [if_pos (by decide)]
  rfl
theorem row_by_ok (c : Int) (m : Nat) (hm : m ≤ 1000) : ∃ r, Pm r m ∧ f_law_row_by [.v (.int c), .v (.int m)] = .ret (.o (nD r)) := by
  obtain ⟨T, hT, eT⟩ := pow1060
  have mT : imod c T = .ok (.int (c % T)) := imod_s hT
  obtain ⟨ρ', e, ⟨left, row, c', eρ, hp⟩, ht⟩ := whileS_go (t := tstF (binF gtR (unF lenR (varF 2)) (cF (.int 0)))) (s := ryBody) (ρ := ryEnv (c % T) m (List.range m) [])
    (fun ρ => ∃ left row c', ρ = ryEnv c' m left row ∧ (left ++ row).Perm (List.range m)) (fun ρ => match slot ρ 2 with | .o xs => xs.length | _ => 0)
    ⟨List.range m, [], _, rfl, by simp⟩ (by show (nD (List.range m)).length < 1000000; simp [nD]; omega) fun ρ ⟨left, row, c', eρ, hp⟩ => by
      subst eρ
      have hlen := hp.length_eq
      simp at hlen
      refine ⟨decide (0 < left.length), by unfold ryEnv; simp [nD], fun hb => ?_⟩
      have hpos : 0 < left.length := of_decide_eq_true hb
      obtain ⟨j, hj, c2, e⟩ := ry_step c' m left row (by omega) hpos (by omega)
      refine ⟨_, e, ⟨left.eraseIdx j, row ++ [left[j]], c2, rfl, ?_⟩, ?_⟩
      · refine List.Perm.trans ?_ hp
        have h1 : (left[j] :: left.eraseIdx j).Perm left := by
          rw [List.eraseIdx_eq_take_drop_succ]
          have := (List.perm_middle (a := left[j]) (l₁ := left.take j) (l₂ := left.drop (j + 1))).symm
          refine this.trans ?_
          rw [List.getElem_cons_drop hj, List.take_append_drop]
        have h2 : (left.eraseIdx j ++ (row ++ [left[j]])).Perm ((left[j] :: left.eraseIdx j) ++ row) := by
          rw [← List.append_assoc]
          refine List.perm_append_comm.trans ?_
          simp
        exact h2.trans (h1.append_right row)
      · show (nD (left.eraseIdx j)).length < (nD left).length
        have := List.length_eraseIdx_of_lt hj
        simp only [nD, List.length_map]
        omega
  subst eρ
  have hl0 : left = [] := by
    unfold ryEnv at ht
    simp [nD] at ht
    exact ht
  subst hl0
  refine ⟨row, Pm.of_perm (by simpa using hp), fnR_of ?_⟩
  have e1 : lrgF (cF (.int 0)) (varF 1) [.v (.int c), .v (.int m), .u, .u] = .ok (.o (nD (List.range m))) := lrg_e (a := .v (.int m)) rfl rfl (by omega)
  show (seqS _ (seqS _ (seqS _ (seqS (whileS (tstF (binF gtR (unF lenR (varF 2)) (cF (.int 0)))) ryBody) _)))) [.v (.int c), .v (.int m), .u, .u] = _
  rw [seq_go (ρ' := [.v (.int c), .v (.int m), .o (nD (List.range m)), .u]) (by rw [asgS_e, e1]; rfl)]
  rw [seq_go (ρ' := [.v (.int (c % T)), .v (.int m), .o (nD (List.range m)), .u]) (by
    generalize c % T = d at *
    simp [eT, mT])]
  rw [seq_go (ρ' := ryEnv (c % T) m (List.range m) []) (by unfold ryEnv; simp [nD])]
  rw [seq_go e]
  unfold ryEnv
  simp

theorem sheet_by3_ok (ns : List Int) (m : Nat) (h0 : 0 < m) (hm : m ≤ 1000) : ∃ p q n, n ≤ m ∧ Sh p q n ∧ f_law_sheet_by_3 [.v (.list (zD ns)), .v (.int m)] = .ret (.v (sheet p q)) := by
  obtain ⟨c1, hc1⟩ := cell_at_ok ns 1
  obtain ⟨c2, hc2⟩ := cell_at_ok ns 2
  have hc1' : f_law_cell_at [.v (.list (zD ns)), .v (.int 1)] = .ret (.v (.int c1)) := hc1
  have hc2' : f_law_cell_at [.v (.list (zD ns)), .v (.int 2)] = .ret (.v (.int c2)) := hc2
  obtain ⟨a, ha, e1⟩ := row_by_ok c1 m hm
  obtain ⟨b, hb, e2⟩ := row_by_ok c2 m hm
  obtain ⟨p, q, n, hn, hs, e5⟩ := together2_ok ha hb h0 hm
  refine ⟨p, q, n, hn, hs, fnR_of ?_⟩
  show b_law_sheet_by_3 [.v (.list (zD ns)), .v (.int m)] = _
  unfold b_law_sheet_by_3
  simp [hc1', hc2', e1, e2, e5]

/-! words with one table lead to one sheet but for its numbers -/
def IsoS (n : Nat) (s t : List Nat × List Nat) : Prop := ∃ g, Pm g n ∧ (∀ x, x < n → ap t.1 (ap g x) = ap g (ap s.1 x)) ∧ ∀ x, x < n → ap t.2 (ap g x) = ap g (ap s.2 x)
def PmS (n : Nat) (s : List Nat × List Nat) : Prop := Pm s.1 n ∧ Pm s.2 n
theorem pm_id (n : Nat) : Pm (rowOf n fun x => x) n := pm_rowOf (fun _ h => h) fun _ _ _ _ e => e
theorem IsoS.refl (n : Nat) (s : List Nat × List Nat) (h : PmS n s) : IsoS n s s := ⟨_, pm_id n, fun x hx => by rw [ap_rowOf hx, ap_rowOf (h.1.ap_lt hx)], fun x hx => by rw [ap_rowOf hx, ap_rowOf (h.2.ap_lt hx)]⟩
theorem IsoS.symm {n : Nat} {s t : List Nat × List Nat} (hs : PmS n s) (ht : PmS n t) : IsoS n s t → IsoS n t s := fun ⟨g, hg, e1, e2⟩ => by
  refine ⟨bk n g, bk_pm hg, fun x hx => ?_, fun x hx => ?_⟩
  · have hb := (bk_pm hg).ap_lt hx
    have := e1 _ hb
    rw [ap_bk hg hx] at this
    rw [this, bk_ap hg (hs.1.ap_lt hb)]
  · have hb := (bk_pm hg).ap_lt hx
    have := e2 _ hb
    rw [ap_bk hg hx] at this
    rw [this, bk_ap hg (hs.2.ap_lt hb)]
theorem pm_comp {n : Nat} {f g : List Nat} (hf : Pm f n) (hg : Pm g n) : Pm (rowOf n fun x => ap f (ap g x)) n := pm_rowOf (fun _ hx => hf.ap_lt (hg.ap_lt hx)) fun _ _ hx hy e => hg.ap_inj hx hy (hf.ap_inj (hg.ap_lt hx) (hg.ap_lt hy) e)
theorem IsoS.trans {n : Nat} {s t u : List Nat × List Nat} (hs : PmS n s) : IsoS n s t → IsoS n t u → IsoS n s u := fun ⟨g, hg, e1, e2⟩ ⟨f, hf, d1, d2⟩ => by
  refine ⟨_, pm_comp hf hg, fun x hx => ?_, fun x hx => ?_⟩
  · rw [ap_rowOf hx, ap_rowOf (hs.1.ap_lt hx), d1 _ (hg.ap_lt hx), e1 x hx]
  · rw [ap_rowOf hx, ap_rowOf (hs.2.ap_lt hx), d2 _ (hg.ap_lt hx), e2 x hx]
theorem mvP_iso {n c : Nat} {s t : List Nat × List Nat} (hs : PmS n s) (ht : PmS n t) : IsoS n s t → IsoS n (mvP n s c) (mvP n t c) := fun ⟨g, hg, e1, e2⟩ => by
  unfold mvP
  split
  · refine ⟨g, hg, e1, fun x hx => ?_⟩
    show ap (shr n t.1 t.2) (ap g x) = ap g (ap (shr n s.1 s.2) x)
    unfold shr
    have hb := (bk_pm hs.1).ap_lt hx
    rw [ap_rowOf (hg.ap_lt hx), ap_rowOf hx, bk_cj hs.1 ht.1 hg e1 x hx, e2 _ hb]
  · exact ⟨g, hg, bk_cj hs.2 ht.2 hg e2, e1⟩
theorem mvW_app (n : Nat) (s : List Nat × List Nat) (u v : List Nat) : mvW n s (u ++ v) = mvW n (mvW n s u) v := List.foldl_append
theorem mvW_iso {n : Nat} : ∀ (w : List Nat) {s t : List Nat × List Nat}, PmS n s → PmS n t → IsoS n s t → IsoS n (mvW n s w) (mvW n t w)
  | [], _, _, _, _, h => h
  | c :: w, _, _, hs, ht, h => mvW_iso w (mvP_pm hs) (mvP_pm ht) (mvP_iso hs ht h)
/-- alike on all sheets, and of one table -/
structure Ev (n : Nat) (u v : List Nat) : Prop where
  iso : ∀ s, PmS n s → IsoS n (mvW n s u) (mvW n s v)
  tb : tbl u = tbl v
theorem Ev.refl (n : Nat) (u : List Nat) : Ev n u u := ⟨fun s hs => IsoS.refl n _ (mvW_pm u hs), rfl⟩
theorem Ev.symm {n : Nat} {u v : List Nat} (h : Ev n u v) : Ev n v u := ⟨fun s hs => (h.iso s hs).symm (mvW_pm u hs) (mvW_pm v hs), h.tb.symm⟩
theorem Ev.trans {n : Nat} {u v w : List Nat} (h : Ev n u v) (g : Ev n v w) : Ev n u w := ⟨fun s hs => (h.iso s hs).trans (mvW_pm u hs) (g.iso s hs), h.tb.trans g.tb⟩
theorem Ev.left {n : Nat} {u v : List Nat} (w : List Nat) (h : Ev n u v) : Ev n (w ++ u) (w ++ v) := ⟨fun s hs => by
  rw [mvW_app, mvW_app]
  exact h.iso _ (mvW_pm w hs), by rw [tbl_app, tbl_app, h.tb]⟩
theorem Ev.right {n : Nat} {u v : List Nat} (w : List Nat) (h : Ev n u v) : Ev n (u ++ w) (v ++ w) := ⟨fun s hs => by
  rw [mvW_app, mvW_app]
  exact mvW_iso w (mvW_pm u hs) (mvW_pm v hs) (h.iso s hs), by rw [tbl_app, tbl_app, h.tb]⟩
theorem Ev.of {n : Nat} {u v : List Nat} (e : u = v) : Ev n u v := e ▸ Ev.refl n u
/-! the relations -/
theorem ev_t4 (n : Nat) : Ev n [116, 116, 116, 116] [] := ⟨fun s hs => by
  have e : mvW n s [116, 116, 116, 116] = s := by
    show (bk n (bk n s.1), bk n (bk n s.2)) = s
    rw [bk_bk hs.1, bk_bk hs.2]
  rw [e]
  exact IsoS.refl n s hs, rfl⟩
theorem bk_shr {n x : Nat} {p q : List Nat} (hp : Pm p n) (hq : Pm q n) (hx : x < n) : ap (bk n (shr n p q)) x = ap p (ap (bk n q) x) := by
  have hb := (bk_pm hq).ap_lt hx
  have h1 : ap (shr n p q) (ap p (ap (bk n q) x)) = x := by
    unfold shr
    rw [ap_rowOf (hp.ap_lt hb), bk_ap hp hb, ap_bk hq hx]
  have h2 := bk_ap (shr_pm hp hq) (hp.ap_lt hb)
  rwa [h1] at h2
theorem shr_ap {n x : Nat} {p q : List Nat} (hx : x < n) : ap (shr n p q) x = ap q (ap (bk n p) x) := ap_rowOf hx
theorem ev_zs (n : Nat) : Ev n [116, 116, 115] [115, 116, 116] := ⟨fun s hs => by
  obtain ⟨p, q⟩ := s
  obtain ⟨hp, hq⟩ : Pm p n ∧ Pm q n := hs
  have hbp := bk_pm hp
  have hbq := bk_pm hq
  refine ⟨p, hp, fun x hx => ?_, fun x hx => ?_⟩
  · show ap (bk n p) (ap p x) = ap p (ap (bk n p) x)
    rw [bk_ap hp hx, ap_bk hp hx]
  · show ap (bk n (shr n p q)) (ap p x) = ap p (ap (shr n (bk n p) (bk n q)) x)
    rw [bk_shr hp hq (hp.ap_lt hx), shr_ap hx, bk_bk hp], rfl⟩
theorem ev_st (n : Nat) : Ev n [115, 116, 115, 116, 115] [116] := ⟨fun s hs => by
  obtain ⟨p, q⟩ := s
  obtain ⟨hp, hq⟩ : Pm p n ∧ Pm q n := hs
  have hbp := bk_pm hp
  have hbq := bk_pm hq
  -- behind st, stst
  have h1 := bk_pm (shr_pm hp hq)
  have h2 := bk_pm (shr_pm h1 hp)
  have a1 : ∀ x, x < n → ap (bk n (shr n p q)) x = ap p (ap (bk n q) x) := fun x hx => bk_shr hp hq hx
  have a1b : ∀ x, x < n → ap (bk n (bk n (shr n p q))) x = ap q (ap (bk n p) x) := fun x hx => by rw [bk_bk (shr_pm hp hq), shr_ap hx]
  have a2 : ∀ x, x < n → ap (bk n (shr n (bk n (shr n p q)) p)) x = ap p (ap (bk n q) (ap (bk n p) x)) := fun x hx => by rw [bk_shr h1 hp hx, a1 _ (hbp.ap_lt hx)]
  have a2b : ∀ x, x < n → ap (bk n (bk n (shr n (bk n (shr n p q)) p))) x = ap p (ap q (ap (bk n p) x)) := fun x hx => by rw [bk_bk (shr_pm h1 hp), shr_ap hx, a1b x hx]
  refine IsoS.symm (mvW_pm (s := (p, q)) [116] ⟨hp, hq⟩) (mvW_pm (s := (p, q)) [115, 116, 115, 116, 115] ⟨hp, hq⟩) ⟨_, pm_comp hp hbq, fun x hx => ?_, fun x hx => ?_⟩
  · show ap (bk n (shr n (bk n (shr n p q)) p)) (ap (rowOf n fun x => ap p (ap (bk n q) x)) x) = ap (rowOf n fun x => ap p (ap (bk n q) x)) (ap (bk n q) x)
    rw [ap_rowOf hx, ap_rowOf (hbq.ap_lt hx), a2 _ (hp.ap_lt (hbq.ap_lt hx)), bk_ap hp (hbq.ap_lt hx)]
  · show ap (shr n (bk n (shr n (bk n (shr n p q)) p)) (bk n (shr n p q))) (ap (rowOf n fun x => ap p (ap (bk n q) x)) x) = ap (rowOf n fun x => ap p (ap (bk n q) x)) (ap p x)
    have hz := hp.ap_lt (hbq.ap_lt hx)
    rw [ap_rowOf hx, ap_rowOf (hp.ap_lt hx), shr_ap hz, a2b _ hz, bk_ap hp (hbq.ap_lt hx), ap_bk hq hx, a1 _ (hp.ap_lt hx)], rfl⟩
/-! the normal form: half turn, quarter, a product of two shears, quarter -/
structure NF where
  e : Bool
  a : Bool
  P : List Bool
  b : Bool
def wL (x : Bool) : List Nat := if x then [115] else [115, 116, 115]
def wP (P : List Bool) : List Nat := (P.reverse.map wL).flatten
def wT (a : Bool) : List Nat := if a then [116] else []
def wZ (e : Bool) : List Nat := if e then [116, 116] else []
def NF.w (f : NF) : List Nat := wT f.b ++ (wP f.P ++ (wT f.a ++ wZ f.e))
theorem wP_cons (x : Bool) (P : List Bool) : wP (x :: P) = wP P ++ wL x := by simp [wP]
theorem ev_zz {n : Nat} (e : Bool) : Ev n ([116, 116] ++ wZ e) (wZ (!e)) := by
  cases e
  · exact .refl n _
  · exact ev_t4 n
theorem ev_zz2 {n : Nat} (e : Bool) : Ev n (wZ e ++ [116, 116]) (wZ (!e)) := by
  cases e
  · exact .refl n _
  · exact ev_t4 n
theorem ev_zcs {n : Nat} (e : Bool) : Ev n (wZ e ++ [115]) ([115] ++ wZ e) := by
  cases e
  · exact .refl n _
  · exact ev_zs n
theorem wZ_t (e : Bool) : wZ e ++ [116] = [116] ++ wZ e := by cases e <;> rfl
theorem app4 (a b c d : List Nat) : a ++ (b ++ (c ++ d)) = (a ++ b) ++ (c ++ d) := by simp
theorem nf_t {n : Nat} (f : NF) : ∃ g : NF, Ev n (f.w ++ [116]) g.w := by
  obtain ⟨e, a, P, b⟩ := f
  have h0 : NF.w ⟨e, a, P, b⟩ ++ [116] = (wT b ++ wP P) ++ (wT a ++ ([116] ++ wZ e)) := by
    unfold NF.w
    rw [← wZ_t]
    simp
  rw [h0]
  cases a with
  | false => exact ⟨⟨e, true, P, b⟩, .of (by unfold NF.w; simp [wT])⟩
  | true =>
    refine ⟨⟨!e, false, P, b⟩, (Ev.left _ (ev_zz e)).trans (.of ?_)⟩
    unfold NF.w
    simp [wT]
theorem nf_s {n : Nat} (f : NF) : ∃ g : NF, Ev n (f.w ++ [115]) g.w := by
  obtain ⟨e, a, P, b⟩ := f
  have h0 : Ev n (NF.w ⟨e, a, P, b⟩ ++ [115]) ((wT b ++ (wP P ++ (wT a ++ [115]))) ++ wZ e) := by
    have : NF.w ⟨e, a, P, b⟩ ++ [115] = (wT b ++ (wP P ++ wT a)) ++ (wZ e ++ [115]) := by
      unfold NF.w
      simp
    rw [this]
    refine (Ev.left _ (ev_zcs e)).trans (.of ?_)
    simp
  cases a with
  | false => exact ⟨⟨e, false, true :: P, b⟩, h0.trans (.of (by unfold NF.w; rw [wP_cons]; simp [wT, wL]))⟩
  | true =>
    cases P with
    | cons x P =>
      cases x with
      | true => exact ⟨⟨e, false, false :: P, b⟩, h0.trans (.of (by unfold NF.w; rw [wP_cons, wP_cons]; simp [wT, wL]))⟩
      | false =>
        refine ⟨⟨e, true, P, b⟩, h0.trans ?_⟩
        have e1 : (wT b ++ (wP (false :: P) ++ (wT true ++ [115]))) ++ wZ e = (wT b ++ wP P) ++ ([115, 116, 115, 116, 115] ++ wZ e) := by
          rw [wP_cons]
          simp [wT, wL]
        rw [e1]
        refine (Ev.left _ (Ev.right _ (ev_st n))).trans (.of ?_)
        unfold NF.w
        simp [wT]
    | nil =>
      cases b with
      | false => exact ⟨⟨e, false, [true], true⟩, h0.trans (.of (by unfold NF.w; simp [wT, wL, wP]))⟩
      | true =>
        refine ⟨⟨!e, false, [true], false⟩, h0.trans ?_⟩
        have e1 : (wT true ++ (wP [] ++ (wT true ++ [115]))) ++ wZ e = [116, 116, 115] ++ wZ e := by simp [wT, wP]
        rw [e1]
        refine (Ev.right _ (ev_zs n)).trans ?_
        have e2 : [115, 116, 116] ++ wZ e = [115] ++ ([116, 116] ++ wZ e) := by simp
        rw [e2]
        refine (Ev.left _ (ev_zz e)).trans (.of ?_)
        unfold NF.w
        simp [wT, wL, wP]
theorem nf_ex {n : Nat} (w : List Nat) (h : St w) : ∃ f : NF, Ev n w f.w := by
  have key : ∀ k, ∃ f : NF, Ev n (w.take k) f.w := by
    intro k
    induction k with
    | zero => exact ⟨⟨false, false, [], false⟩, .of (by simp [NF.w, wT, wP, wZ])⟩
    | succ k ih =>
      obtain ⟨f, hf⟩ := ih
      by_cases hk : k < w.length
      · rw [St.take_ap hk]
        rcases h w[k] (List.getElem_mem hk) with e | e
        · rw [e]
          obtain ⟨g, hg⟩ := nf_s (n := n) f
          exact ⟨g, (Ev.right _ hf).trans hg⟩
        · rw [e]
          obtain ⟨g, hg⟩ := nf_t (n := n) f
          exact ⟨g, (Ev.right _ hf).trans hg⟩
      · rw [List.take_of_length_le (by omega)]
        rw [List.take_of_length_le (by omega)] at hf
        exact ⟨f, hf⟩
  obtain ⟨f, hf⟩ := key w.length
  rw [List.take_length] at hf
  exact ⟨f, hf⟩
/-! tables of normal forms -/
def mX (x : Bool) : Tb := if x then ⟨1, 1, 0, 1⟩ else ⟨1, 0, 1, 1⟩
def mP : List Bool → Tb
  | [] => .one
  | x :: P => (mX x).mul (mP P)
theorem tbl_wP : ∀ P : List Bool, tbl (wP P) = mP P
  | [] => rfl
  | x :: P => by
    rw [wP_cons, tbl_app, tbl_wP P]
    cases x <;> rfl
structure Pos (t : Tb) : Prop where
  a : 1 ≤ t.a
  b : 0 ≤ t.b
  c : 0 ≤ t.c
  d : 1 ≤ t.d
  det : t.det = 1
theorem mX_mul (x : Bool) (t : Tb) : (mX x).mul t = if x then ⟨t.a + t.c, t.b + t.d, t.c, t.d⟩ else ⟨t.a, t.b, t.a + t.c, t.b + t.d⟩ := by
  cases x <;> simp [mX, Tb.mul]
theorem mP_pos : ∀ P : List Bool, Pos (mP P)
  | [] => ⟨by decide, by decide, by decide, by decide, rfl⟩
  | x :: P => by
    have ih := mP_pos P
    have hd : ((mX x).mul (mP P)).det = 1 := by
      rw [Tb.mul_det, ih.det]
      cases x <;> rfl
    have e := mX_mul x (mP P)
    have h1 := ih.a
    have h2 := ih.b
    have h3 := ih.c
    have h4 := ih.d
    show Pos ((mX x).mul (mP P))
    refine ⟨?_, ?_, ?_, ?_, hd⟩ <;> rw [e] <;> cases x <;> simp <;> omega
theorem mP_inj : ∀ P Q : List Bool, mP P = mP Q → P = Q
  | [], [], _ => rfl
  | [], y :: Q, e => by
    exfalso
    have h := mP_pos Q
    have h1 := h.a
    have h2 := h.b
    have h3 := h.c
    have h4 := h.d
    have e' : (⟨1, 0, 0, 1⟩ : Tb) = (mX y).mul (mP Q) := e
    rw [mX_mul] at e'
    cases y <;> simp at e' <;> omega
  | x :: P, [], e => by
    exfalso
    have h := mP_pos P
    have h1 := h.a
    have h2 := h.b
    have h3 := h.c
    have h4 := h.d
    have e' : (mX x).mul (mP P) = (⟨1, 0, 0, 1⟩ : Tb) := e
    rw [mX_mul] at e'
    cases x <;> simp at e' <;> omega
  | x :: P, y :: Q, e => by
    have g := mP_pos P
    have h := mP_pos Q
    have g1 := g.a
    have g2 := g.b
    have g3 := g.c
    have g4 := g.d
    have h1 := h.a
    have h2 := h.b
    have h3 := h.c
    have h4 := h.d
    have e' : (mX x).mul (mP P) = (mX y).mul (mP Q) := e
    rw [mX_mul, mX_mul] at e'
    have ext : ∀ {s t : Tb}, s.a = t.a → s.b = t.b → s.c = t.c → s.d = t.d → s = t := fun {s t} z1 z2 z3 z4 => by
      cases s
      cases t
      simp only at z1 z2 z3 z4
      rw [z1, z2, z3, z4]
    cases x <;> cases y <;> simp at e'
    · rw [mP_inj P Q (ext (by omega) (by omega) (by omega) (by omega))]
    · omega
    · omega
    · rw [mP_inj P Q (ext (by omega) (by omega) (by omega) (by omega))]
theorem mP_one {P : List Bool} (hb : (mP P).b = 0) (hc : (mP P).c = 0) : P = [] := by
  have h := mP_pos P
  have h1 := h.a
  have h4 := h.d
  have hd := h.det
  unfold Tb.det at hd
  rw [hb, Int.zero_mul, Int.sub_zero] at hd
  refine mP_inj P [] ?_
  have ha : (mP P).a = 1 := by
    have := Int.mul_le_mul_of_nonneg_left h4 (show (0 : Int) ≤ (mP P).a by omega)
    omega
  rw [ha, Int.one_mul] at hd
  show mP P = ⟨1, 0, 0, 1⟩
  generalize mP P = t at *
  cases t
  simp only at ha hb hc hd
  rw [ha, hb, hc, hd]
def sgn1 (e : Bool) : Int := if e then -1 else 1
def eA (f : NF) : Tb := match f.a, f.b with
  | false, false => mP f.P
  | true, false => ⟨-(mP f.P).c, -(mP f.P).d, (mP f.P).a, (mP f.P).b⟩
  | false, true => ⟨(mP f.P).b, -(mP f.P).a, (mP f.P).d, -(mP f.P).c⟩
  | true, true => ⟨-(mP f.P).d, (mP f.P).c, (mP f.P).b, -(mP f.P).a⟩
theorem tbl_nf (f : NF) : tbl f.w = ⟨sgn1 f.e * (eA f).a, sgn1 f.e * (eA f).b, sgn1 f.e * (eA f).c, sgn1 f.e * (eA f).d⟩ := by
  obtain ⟨e, a, P, b⟩ := f
  have h : ∀ e a b, tbl (NF.w ⟨e, a, P, b⟩) = ((tbl (wZ e)).mul (tbl (wT a))).mul ((mP P).mul (tbl (wT b))) := fun e a b => by
    unfold NF.w
    simp only [tbl_app, tbl_wP]
    rw [Tb.mul_as, Tb.mul_as]
  rw [h]
  cases e <;> cases a <;> cases b <;> simp only [eA] <;> generalize mP P = t <;> cases t <;> simp [wZ, wT, tbl, lt1, tT1, Tb.one, Tb.mul, sgn1]
/-- one table: one form, but for quarters with nothing between -/
theorem nf_uniq {n : Nat} (f g : NF) (h : tbl f.w = tbl g.w) : Ev n f.w g.w := by
  rw [tbl_nf, tbl_nf] at h
  obtain ⟨e, a, P, b⟩ := f
  obtain ⟨e', a', Q, b'⟩ := g
  have p := mP_pos P
  have q := mP_pos Q
  have p1 := p.a
  have p2 := p.b
  have p3 := p.c
  have p4 := p.d
  have q1 := q.a
  have q2 := q.b
  have q3 := q.c
  have q4 := q.d
  have ext : ∀ {s t : Tb}, s.a = t.a → s.b = t.b → s.c = t.c → s.d = t.d → s = t := fun {s t} z1 z2 z3 z4 => by
    cases s
    cases t
    simp only at z1 z2 z3 z4
    rw [z1, z2, z3, z4]
  have same : (mP P).a = (mP Q).a → (mP P).b = (mP Q).b → (mP P).c = (mP Q).c → (mP P).d = (mP Q).d → P = Q := fun z1 z2 z3 z4 => mP_inj P Q (ext z1 z2 z3 z4)
  cases e <;> cases e' <;> cases a <;> cases a' <;> cases b <;> cases b' <;> simp [sgn1, eA] at h <;> first
    | (exfalso; omega)
    | (have := same (by omega) (by omega) (by omega) (by omega); subst this; exact .refl n _)
    | (have hP := mP_one (P := P) (by omega) (by omega)
       have hQ := mP_one (P := Q) (by omega) (by omega)
       subst hP hQ
       first
         | exact .refl n _
         | exact ev_t4 n
         | exact (ev_t4 n).symm)
/-- THE LAW: words with one table -/
theorem sl2 {n : Nat} {u v : List Nat} (hu : St u) (hv : St v) (h : tbl u = tbl v) {s : List Nat × List Nat} (hs : PmS n s) : IsoS n (mvW n s u) (mvW n s v) := by
  obtain ⟨f, hf⟩ := nf_ex (n := n) u hu
  obtain ⟨g, hg⟩ := nf_ex (n := n) v hv
  have := nf_uniq (n := n) f g (hf.tb.symm.trans (h.trans hg.tb))
  exact (hf.trans (this.trans hg.symm)).iso s hs

theorem sh_mvP {n c : Nat} {s : List Nat × List Nat} (h : Sh s.1 s.2 n) : Sh (mvP n s c).1 (mvP n s c).2 n := by
  have hp := h.hp
  have hq := h.hq
  unfold mvP
  split
  · refine ⟨hp, shr_pm hp hq, h.pos, fun x hx => ?_⟩
    have key : ∀ y, Re s.1 s.2 y → Re s.1 (shr n s.1 s.2) y := fun y hy => by
      induction hy with
      | z => exact .z
      | fa _ ih => exact .fa ih
      | fb hz ih =>
        rename_i z
        have hzn := re_lt hp hq h.pos hz
        have : ap s.2 z = ap (shr n s.1 s.2) (ap s.1 z) := by rw [shr_ap (hp.ap_lt hzn), bk_ap hp hzn]
        rw [this]
        exact .fb (.fa ih)
    exact key x (h.re x hx)
  · exact sh_bkr (sh_swap h)
theorem sh_mvW {n : Nat} : ∀ (w : List Nat) {s : List Nat × List Nat}, Sh s.1 s.2 n → Sh (mvW n s w).1 (mvW n s w).2 n
  | [], _, h => h
  | _ :: w, _, h => sh_mvW w (sh_mvP h)

/-- sheared k times -/
theorem mv_shear {n : Nat} : ∀ (k : Nat) (s : List Nat × List Nat), PmS n s → (mvW n s (List.replicate k 115)).1 = s.1 ∧ ∀ x, x < n → ap (mvW n s (List.replicate k 115)).2 x = ap s.2 (zt s.1 n (-(k : Int)) x)
  | 0, _, _ => ⟨rfl, fun _ _ => rfl⟩
  | k + 1, s, h => by
    have ih := mv_shear k (mvP n s 115) (mvP_pm h)
    have e : mvW n s (List.replicate (k + 1) 115) = mvW n (mvP n s 115) (List.replicate k 115) := rfl
    rw [e]
    refine ⟨ih.1, fun x hx => ?_⟩
    have hz := zt_lt h.1 hx (-(k : Int))
    rw [ih.2 x hx]
    show ap (shr n s.1 s.2) (zt s.1 n (-(k : Int)) x) = _
    rw [shr_ap hz, ← zt_pred h.1 hx, show -(k : Int) - 1 = -((k + 1 : Nat) : Int) by omega]
theorem st_rep115 (k : Nat) : St (List.replicate k 115) := fun c hc => .inl (List.eq_of_mem_replicate hc)

/-! dicts by whole numbers -/
def kvG (f : Nat → D) (S : List Nat) : List (Key × PyData) := S.map fun z : Nat => (.inl (z : Int), f z)
theorem kvG_any (f : Nat → D) (S : List Nat) (z : Nat) : ((kvG f S).any fun kv => decide (kv.1 = .inl (z : Int))) = decide (z ∈ S) := by
  induction S with
  | nil => rfl
  | cons y S ih =>
    show (decide ((Sum.inl (y : Int) : Key) = .inl (z : Int)) || (kvG f S).any fun kv => decide (kv.1 = .inl (z : Int))) = _
    rw [ih, ← Bool.decide_or]
    refine decide_eq_decide.mpr ?_
    rw [List.mem_cons]
    refine or_congr_left ⟨fun e => ?_, fun e => by rw [e]⟩
    injection e with e
    omega
theorem kvG_set {f : Nat → D} {S : List Nat} {z : Nat} (h : z ∉ S) : setK (kvG f S) (.inl (z : Int)) (f z) = kvG f (S ++ [z]) := by
  unfold setK
  rw [kvG_any, if_neg (by simpa using h)]
  simp [kvG]
theorem getK_kvG (f : Nat → D) (S : List Nat) (z : Nat) : getK (kvG f S) (.inl (z : Int)) = if z ∈ S then some (f z) else none := by
  induction S with
  | nil => rfl
  | cons y S ih =>
    unfold getK at ih ⊢
    show ((((Sum.inl (y : Int) : Key), f y) :: kvG f S).find? fun kv => decide (kv.1 = .inl (z : Int))).map (·.2) = _
    rw [List.find?_cons]
    by_cases e : y = z
    · subst e
      simp
    · have : decide (((Sum.inl (y : Int) : Key), f y).1 = .inl (z : Int)) = false := decide_eq_false fun h => by
        injection h with h
        omega
      rw [this]
      dsimp only
      rw [ih]
      by_cases hz : z ∈ S
      · rw [if_pos hz, if_pos (List.mem_cons_of_mem _ hz)]
      · rw [if_neg hz, if_neg fun h => hz ((List.mem_cons.mp h).resolve_left (Ne.symm e))]
@[simp] theorem kvG_len (f : Nat → D) (S : List Nat) : (kvG f S).length = S.length := by simp [kvG]
theorem in_kvG (n : Bool) (f : Nat → D) (S : List Nat) (k : Bool) (z : Nat) : inR n (rI k z) (.wk (kvG f S)) = .ok (.v (.bool (if n then !decide (z ∈ S) else decide (z ∈ S)))) := by
  refine alt_l ?_
  show (match (rI k z).dat.bind keyD with | some q => Er.ok (Rv.v (.bool (if n then !(getK (kvG f S) q).isSome else (getK (kvG f S) q).isSome))) | none => .bad) = _
  rw [rI_dat]
  show Er.ok (Rv.v (.bool (if n then !(getK (kvG f S) (.inl (z : Int))).isSome else (getK (kvG f S) (.inl (z : Int))).isSome))) = _
  have : (getK (kvG f S) (.inl (z : Int))).isSome = decide (z ∈ S) := by
    rw [getK_kvG]
    by_cases h : z ∈ S
    · rw [if_pos h, decide_eq_true h]; rfl
    · rw [if_neg h, decide_eq_false h]; rfl
  rw [this]
theorem ix_kvG {f : Nat → D} {S : List Nat} {z : Nat} {k : Bool} (h : z ∈ S) : ixR (.wk (kvG f S)) (rI k z) = .ok (.v (f z)) :=
  ixR_k (rI_dat k z) (q := .inl (z : Int)) rfl (by rw [getK_kvG, if_pos h])
theorem take_succ_ap {S : List Nat} {i : Nat} (h : i < S.length) : S.take (i + 1) = S.take i ++ [ap S i] := by
  rw [List.take_succ, ap_get h]
  rfl
theorem nd_take {S : List Nat} {i : Nat} (hn : S.Nodup) (h : i < S.length) : ap S i ∉ S.take i := fun hm => by
  obtain ⟨j, hj, e⟩ := List.getElem_of_mem hm
  have hj2 : j < i := by
    rw [List.length_take] at hj
    omega
  rw [List.getElem_take] at e
  have : j = i := nodup_get hn (y := ap S i) (by rw [← e]; exact List.getElem?_eq_getElem (by omega)) (ap_get h)
  omega

/-! a list that leads one sheet to another, found step by step -/
theorem re_lt0 {a b : List Nat} {n x : Nat} (ha : Pm a n) (hb : Pm b n) (h0 : 0 < n) (h : Re a b x) : x < n := by
  induction h with
  | z => exact h0
  | fa _ ih => exact ha.ap_lt ih
  | fb _ ih => exact hb.ap_lt ih
def HomP (p q p' q' : List Nat) (n n' f : Nat) (g : Nat → Nat) : Prop := g 0 = f ∧ (∀ x, x < n → g x < n') ∧ (∀ x, x < n → g (ap p x) = ap p' (g x)) ∧ ∀ x, x < n → g (ap q x) = ap q' (g x)
def upd1 (v : Nat → Nat) (y z : Nat) : Nat → Nat := fun t => if t = y then z else v t
structure LI (C : (Nat → Nat) → Prop) (n n' f : Nat) (M : List Nat) (v : Nat → Nat) : Prop where
  nd : M.Nodup
  lt : ∀ x ∈ M, x < n
  z : 0 ∈ M
  v0 : v 0 = f
  vl : ∀ x ∈ M, v x < n'
  hom : ∀ g, C g → ∀ x ∈ M, v x = g x
theorem upd1_ne {v : Nat → Nat} {y z t : Nat} (h : t ≠ y) : upd1 v y z t = v t := if_neg h
theorem upd1_eq {v : Nat → Nat} {y z : Nat} : upd1 v y z y = z := if_pos rfl
theorem LI.put {C : (Nat → Nat) → Prop} {n n' f : Nat} {M : List Nat} {v : Nat → Nat} {r r' : List Nat} {x : Nat} (hr : Pm r n) (hr' : Pm r' n') (hC : ∀ g, C g → ∀ x, x < n → g (ap r x) = ap r' (g x)) (h : LI C n n' f M v) (hx : x ∈ M) (hy : ap r x ∉ M) : LI C n n' f (M ++ [ap r x]) (upd1 v (ap r x) (ap r' (v x))) := by
  have ne : ∀ t ∈ M, t ≠ ap r x := fun t ht e => hy (e ▸ ht)
  refine ⟨?_, ?_, List.mem_append_left _ h.z, ?_, ?_, ?_⟩
  · rw [List.nodup_append]
    refine ⟨h.nd, by simp, fun a ha b hb => ?_⟩
    rw [List.mem_singleton.mp hb]
    exact ne a ha
  · intro t ht
    rcases List.mem_append.mp ht with ht | ht
    · exact h.lt t ht
    · rw [List.mem_singleton.mp ht]
      exact hr.ap_lt (h.lt x hx)
  · rw [upd1_ne (ne 0 h.z), h.v0]
  · intro t ht
    rcases List.mem_append.mp ht with ht | ht
    · rw [upd1_ne (ne t ht)]
      exact h.vl t ht
    · rw [List.mem_singleton.mp ht, upd1_eq]
      exact hr'.ap_lt (h.vl x hx)
  · intro g hg t ht
    rcases List.mem_append.mp ht with ht | ht
    · rw [upd1_ne (ne t ht)]
      exact h.hom g hg t ht
    · rw [List.mem_singleton.mp ht, upd1_eq, h.hom g hg x hx]
      exact (hC g hg x (h.lt x hx)).symm
theorem LI.no {C : (Nat → Nat) → Prop} {n n' f : Nat} {M : List Nat} {v : Nat → Nat} {r r' : List Nat} {x : Nat} (hC : ∀ g, C g → ∀ x, x < n → g (ap r x) = ap r' (g x)) (h : LI C n n' f M v) (hx : x ∈ M) (hy : ap r x ∈ M) (e : v (ap r x) ≠ ap r' (v x)) : ∀ g, ¬ C g := fun g hg => e (by
  rw [h.hom g hg _ hy, h.hom g hg x hx]
  exact hC g hg x (h.lt x hx))
theorem LI.one {C : (Nat → Nat) → Prop} {n n' f : Nat} (hn : 0 < n) (hf : f < n') (hC : ∀ g, C g → g 0 = f) : LI C n n' f [0] (fun _ => f) :=
  ⟨by simp, fun x hx => by rw [List.mem_singleton.mp hx]; exact hn, by simp, rfl, fun _ _ => hf, fun g hg x hx => by rw [List.mem_singleton.mp hx]; exact (hC g hg).symm⟩
theorem LI.len {C : (Nat → Nat) → Prop} {n n' f : Nat} {M : List Nat} {v : Nat → Nat} (h : LI C n n' f M v) : M.length ≤ n := by
  have := List.Nodup.length_le_of_subset h.nd (l₂ := List.range n) fun x hx => List.mem_range.mpr (h.lt x hx)
  simpa using this
/-- every square is met -/
theorem LI.all {C : (Nat → Nat) → Prop} {p q : List Nat} {n n' f : Nat} {M : List Nat} {v : Nat → Nat} (hs : Sh p q n) (h : LI C n n' f M v) (hp : ∀ x ∈ M, ap p x ∈ M) (hq : ∀ x ∈ M, ap q x ∈ M) : ∀ x, x < n → x ∈ M := fun x hx => by
  have key : ∀ y, Re p q y → y ∈ M := fun y hy => by
    induction hy with
    | z => exact h.z
    | fa _ ih => exact hp _ ih
    | fb _ ih => exact hq _ ih
  exact key x (hs.re x hx)
theorem LI.homP {p q p' q' : List Nat} {n n' f : Nat} {C : (Nat → Nat) → Prop} {M : List Nat} {v : Nat → Nat} (h : LI C n n' f M v) (ha : ∀ x, x < n → x ∈ M) (hp : ∀ x ∈ M, v (ap p x) = ap p' (v x)) (hq : ∀ x ∈ M, v (ap q x) = ap q' (v x)) : HomP p q p' q' n n' f v :=
  ⟨h.v0, fun x hx => h.vl x (ha x hx), fun x hx => hp x (ha x hx), fun x hx => hq x (ha x hx)⟩
/-- a list that leads to a sheet of as many squares is a renumbering -/
theorem HomP.onto {p q p' q' : List Nat} {n n' f : Nat} {g : Nat → Nat} (hs : Sh p q n) (ht : Sh p' q' n') (h : HomP p q p' q' n n' f g) : ∀ y, y < n' → ∃ x, x < n ∧ g x = y := by
  have back : ∀ (r r' : List Nat), Pm r n → Pm r' n' → (∀ x, x < n → g (ap r x) = ap r' (g x)) → ∀ y, y < n' → (∃ x, x < n ∧ g x = ap r' y) → ∃ x, x < n ∧ g x = y := fun r r' hr hr' hc y hy ⟨x, hx, e⟩ => by
    obtain ⟨o0, _, o2, _⟩ := ordr_spec hr' hy
    have fw : ∀ k, g (it r k x) = it r' k (g x) := fun k => by
      induction k with
      | zero => rfl
      | succ k ih =>
        show g (ap r (it r k x)) = ap r' (it r' k (g x))
        rw [hc _ (it_lt hr hx k), ih]
    refine ⟨it r (ordr r' n' y - 1) x, it_lt hr hx _, ?_⟩
    rw [fw, e]
    have : it r' (ordr r' n' y - 1) (ap r' y) = it r' (ordr r' n' y - 1 + 1) y := by
      rw [it_add]
      rfl
    rw [this, show ordr r' n' y - 1 + 1 = ordr r' n' y by omega, o2]
  have key : ∀ y, Re p' q' y → (∃ x, x < n ∧ g x = y) → ∃ x, x < n ∧ g x = 0 := fun y hy => by
    induction hy with
    | z => exact fun h => h
    | fa hz ih => exact fun e => ih (back p p' hs.hp ht.hp h.2.2.1 _ (re_lt0 ht.hp ht.hq ht.pos hz) e)
    | fb hz ih => exact fun e => ih (back q q' hs.hq ht.hq h.2.2.2 _ (re_lt0 ht.hp ht.hq ht.pos hz) e)
  have hf : f < n' := h.1 ▸ h.2.1 0 hs.pos
  have z0 := key f (ht.re f hf) ⟨0, hs.pos, h.1⟩
  have fw : ∀ y, Re p' q' y → ∃ x, x < n ∧ g x = y := fun y hy => by
    induction hy with
    | z => exact z0
    | fa _ ih =>
      obtain ⟨x, hx, e⟩ := ih
      exact ⟨ap p x, hs.hp.ap_lt hx, by rw [h.2.2.1 x hx, e]⟩
    | fb _ ih =>
      obtain ⟨x, hx, e⟩ := ih
      exact ⟨ap q x, hs.hq.ap_lt hx, by rw [h.2.2.2 x hx, e]⟩
  exact fun y hy => fw y (ht.re y hy)
theorem HomP.nodup {p q p' q' : List Nat} {n f : Nat} {g : Nat → Nat} (hs : Sh p q n) (ht : Sh p' q' n) (h : HomP p q p' q' n n f g) : (rowOf n g).Nodup := by
  have on := h.onto hs ht
  let s : Nat → Nat := fun y => if hy : y < n then (on y hy).choose else 0
  have hs1 : ∀ y, y < n → s y < n ∧ g (s y) = y := fun y hy => by
    show (if hy : y < n then (on y hy).choose else 0) < n ∧ g (if hy : y < n then (on y hy).choose else 0) = y
    rw [dif_pos hy]
    exact (on y hy).choose_spec
  have ps : Pm (rowOf n s) n := pm_rowOf (fun y hy => (hs1 y hy).1) fun y z hy hz e => by rw [← (hs1 y hy).2, ← (hs1 z hz).2, e]
  have pg : Pm (rowOf n g) n := pm_rowOf h.2.1 fun x z hx hz e => by
    obtain ⟨y, hy, ey⟩ := ps.ap_surj hx
    obtain ⟨y2, hy2, ey2⟩ := ps.ap_surj hz
    rw [ap_rowOf hy] at ey
    rw [ap_rowOf hy2] at ey2
    rw [← ey, ← ey2, (hs1 y hy).2, (hs1 y2 hy2).2] at e
    rw [← ey, ← ey2, e]
  exact pg.nd

/-! does one sheet lead to another but for its numbers: the law's own look -/
def ldIn : SF := (seqS (asgS (binF ixR (varF 8) (binF ixR (varF 3) (varF 6))) (asgn 9))
  (ifS (tstF (binF (inR true) (binF ixR (varF 7) (varF 6)) (varF 3))) (seqS (setIt 3 (binF ixR (varF 7) (varF 6)) (varF 9))
  (appS 4 (binF ixR (varF 7) (varF 6))))
  (ifS (tstF (binF neR (binF ixR (varF 3) (binF ixR (varF 7) (varF 6))) (varF 9))) (retS (cF .none))
  skipS)))
def ldV (v : Nat → Nat) : Nat → PyData := fun x => .int (v x : Nat)
def ldEnv (s0 s1 s2 : Sl) (M : List Nat) (v : Nat → Nat) (i : Nat) (x6 x7 x8 x9 : Sl) : Env := [s0, s1, s2, .k (kvG (ldV v) M), .o (nD M), .v (.int i), x6, x7, x8, x9, .u]
theorem kvG_congr {f g : Nat → PyData} {S : List Nat} (h : ∀ x ∈ S, f x = g x) : kvG f S = kvG g S := List.map_congr_left fun x hx => by rw [h x hx]
theorem ld_set {v : Nat → Nat} {M : List Nat} {y z : Nat} (h : y ∉ M) : setK (kvG (ldV v) M) (.inl (y : Int)) (.int (z : Nat)) = kvG (ldV (upd1 v y z)) (M ++ [y]) := by
  have e : kvG (ldV v) M = kvG (ldV (upd1 v y z)) M := kvG_congr fun x hx => by
    show PyData.int (v x : Nat) = .int (upd1 v y z x : Nat)
    have hne : x ≠ y := fun e => h (by rw [← e]; exact hx)
    rw [upd1_ne hne]
  have e2 : PyData.int ((z : Nat) : Int) = ldV (upd1 v y z) y := by
    show _ = PyData.int (upd1 v y z y : Nat)
    rw [upd1_eq]
  rw [e, e2]
  exact kvG_set h
theorem ld_put {s0 s1 s2 x9 : Sl} {M r r' : List Nat} {v : Nat → Nat} {i x n n' : Nat} (hr : Pm r n) (hr' : Pm r' n') (hx : x ∈ M) (hxn : x < n) (hv : v x < n') (hl : M.length < 1000) (hy : ap r x ∉ M) :
    ldIn (ldEnv s0 s1 s2 M v i (.v (.int x)) (.v (.tuple (nD r))) (.v (.tuple (nD r'))) x9) = .next (ldEnv s0 s1 s2 (M ++ [ap r x]) (upd1 v (ap r x) (ap r' (v x))) i (.v (.int x)) (.v (.tuple (nD r))) (.v (.tuple (nD r'))) (.v (.int (ap r' (v x) : Nat)))) := by
  have e1 : ixR (.wk (kvG (ldV v) M)) (.v (.int x)) = .ok (.v (.int (v x : Nat))) := ix_kvG (k := false) hx
  have e2 := ix_rowT (a := r') (x := v x) (by rw [hr'.len]; exact hv)
  have e3 := ix_rowT (a := r) (x := x) (by rw [hr.len]; exact hxn)
  have e4 := in_kvG true (ldV v) M false (ap r x)
  have e4' : inR true (.v (.int (ap r x : Nat))) (.wk (kvG (ldV v) M)) = .ok (.v (.bool true)) := by
    refine e4.trans ?_
    simp [hy]
  have e5 := ld_set (v := v) (z := ap r' (v x)) hy
  have hk : (kvG (ldV v) M).length < 100000 := by rw [kvG_len]; omega
  have hl2 : (nD M).length < 100000 := by simp [nD]; omega
  have hl3 : M.length < 100000 := by omega
  unfold ldIn
  rw [seq_go (ρ' := ldEnv s0 s1 s2 M v i (.v (.int x)) (.v (.tuple (nD r))) (.v (.tuple (nD r'))) (.v (.int (ap r' (v x) : Nat)))) (by
    unfold ldEnv
    simp [e1, e2])]
  generalize ap r' (v x) = z at *
  generalize ap r x = y at *
  rw [ifS_e]
  have tt : tstF (binF (inR true) (binF ixR (varF 7) (varF 6)) (varF 3)) (ldEnv s0 s1 s2 M v i (.v (.int x)) (.v (.tuple (nD r))) (.v (.tuple (nD r'))) (.v (.int (z : Nat)))) = .ok true := by
    unfold ldEnv
    simp [e3, e4']
  rw [tt]
  show seqS _ _ _ = _
  rw [seq_go (ρ' := [s0, s1, s2, .k (kvG (ldV (upd1 v y z)) (M ++ [y])), .o (nD M), .v (.int i), .v (.int x), .v (.tuple (nD r)), .v (.tuple (nD r')), .v (.int (z : Nat)), .u]) (by
    unfold ldEnv setIt
    simp [e3, keyD, hl3, e5])]
  rw [appS_e (xs := nD M) rfl hl2]
  unfold ldEnv
  simp [e3, nD_app, nD_one]
theorem ld_there {s0 s1 s2 x9 : Sl} {M r r' : List Nat} {v : Nat → Nat} {i x n n' : Nat} (hr : Pm r n) (hr' : Pm r' n') (hx : x ∈ M) (hxn : x < n) (hv : v x < n') (hy : ap r x ∈ M) :
    ldIn (ldEnv s0 s1 s2 M v i (.v (.int x)) (.v (.tuple (nD r))) (.v (.tuple (nD r'))) x9) = if v (ap r x) = ap r' (v x) then .next (ldEnv s0 s1 s2 M v i (.v (.int x)) (.v (.tuple (nD r))) (.v (.tuple (nD r'))) (.v (.int (ap r' (v x) : Nat)))) else .ret (.v .none) := by
  have e1 : ixR (.wk (kvG (ldV v) M)) (.v (.int x)) = .ok (.v (.int (v x : Nat))) := ix_kvG (k := false) hx
  have e2 := ix_rowT (a := r') (x := v x) (by rw [hr'.len]; exact hv)
  have e3 := ix_rowT (a := r) (x := x) (by rw [hr.len]; exact hxn)
  have e4' : inR true (.v (.int (ap r x : Nat))) (.wk (kvG (ldV v) M)) = .ok (.v (.bool false)) := by
    refine (in_kvG true (ldV v) M false (ap r x)).trans ?_
    simp [hy]
  have e5 : ixR (.wk (kvG (ldV v) M)) (.v (.int (ap r x : Nat))) = .ok (.v (.int (v (ap r x) : Nat))) := ix_kvG (k := false) hy
  have dn : deq true (.int (v (ap r x) : Nat)) (.int (ap r' (v x) : Nat)) = .ok (.bool (!decide (v (ap r x) = ap r' (v x)))) := by
    refine (ne_dec (p := v (ap r x) = ap r' (v x)) 1 rfl rfl ⟨fun e => by injection e with e; omega, fun e => by rw [e]⟩).trans (by rw [decide_not])
  unfold ldIn
  rw [seq_go (ρ' := ldEnv s0 s1 s2 M v i (.v (.int x)) (.v (.tuple (nD r))) (.v (.tuple (nD r'))) (.v (.int (ap r' (v x) : Nat)))) (by
    unfold ldEnv
    simp [e1, e2])]
  generalize ap r' (v x) = z at *
  generalize ap r x = y at *
  unfold ldEnv
  by_cases h : v y = z
  · simp [e3, e4', e5, dn, h]
  · simp [e3, e4', e5, dn, h]
def ldBody : SF := (seqS (asgS (binF ixR (varF 4) (varF 5)) (asgn 6))
  (seqS (forS (zipF (aCons (varF 0) (aCons (varF 1) aNil))) (unpT [asgn 7, asgn 8]) ldIn)
  (asgS (binF addR (varF 5) (cF (.int 1))) (asgn 5))))
/-- what holds at each turn -/
structure LJ (p q p' q' : List Nat) (n n' f : Nat) (M : List Nat) (v : Nat → Nat) (i : Nat) : Prop where
  li : LI (HomP p q p' q' n n' f) n n' f M v
  il : i ≤ M.length
  dn : ∀ j, j < i → (ap p (ap M j) ∈ M ∧ v (ap p (ap M j)) = ap p' (v (ap M j))) ∧ (ap q (ap M j) ∈ M ∧ v (ap q (ap M j)) = ap q' (v (ap M j)))
theorem ap_snoc_lt {M : List Nat} {y j : Nat} (h : j < M.length) : ap (M ++ [y]) j = ap M j := by
  unfold ap
  simp [List.getElem?_append_left h]
theorem ap_memL {M : List Nat} {j : Nat} (h : j < M.length) : ap M j ∈ M := by
  have := ap_get h
  exact List.mem_of_getElem? this
/-- one half of a turn -/
theorem ld_half {s0 s1 s2 x9 : Sl} {C : (Nat → Nat) → Prop} {n n' f : Nat} {M r r' : List Nat} {v : Nat → Nat} {i x : Nat} (hr : Pm r n) (hr' : Pm r' n') (hC : ∀ g, C g → ∀ x, x < n → g (ap r x) = ap r' (g x)) (hn : n ≤ 500) (h : LI C n n' f M v) (hx : x ∈ M) :
    (∃ M' v' x9', ldIn (ldEnv s0 s1 s2 M v i (.v (.int x)) (.v (.tuple (nD r))) (.v (.tuple (nD r'))) x9) = .next (ldEnv s0 s1 s2 M' v' i (.v (.int x)) (.v (.tuple (nD r))) (.v (.tuple (nD r'))) x9') ∧ LI C n n' f M' v' ∧ (∃ T, M' = M ++ T) ∧ (∀ t ∈ M, v' t = v t) ∧ ap r x ∈ M' ∧ v' (ap r x) = ap r' (v' x)) ∨
    (ldIn (ldEnv s0 s1 s2 M v i (.v (.int x)) (.v (.tuple (nD r))) (.v (.tuple (nD r'))) x9) = .ret (.v .none) ∧ ∀ g, ¬ C g) := by
  have hl := h.len
  by_cases hy : ap r x ∈ M
  · by_cases e : v (ap r x) = ap r' (v x)
    · left
      exact ⟨M, v, _, by rw [ld_there hr hr' hx (h.lt x hx) (h.vl x hx) hy, if_pos e], h, ⟨[], by simp⟩, fun _ _ => rfl, hy, e⟩
    · right
      exact ⟨by rw [ld_there hr hr' hx (h.lt x hx) (h.vl x hx) hy, if_neg e], h.no hC hx hy e⟩
  · left
    have ne : ∀ t ∈ M, t ≠ ap r x := fun t ht e => hy (e ▸ ht)
    refine ⟨_, _, _, ld_put hr hr' hx (h.lt x hx) (h.vl x hx) (by omega) hy, h.put hr hr' hC hx hy, ⟨_, rfl⟩, fun t ht => upd1_ne (ne t ht), by simp, ?_⟩
    rw [upd1_eq, upd1_ne (ne x hx)]
theorem ld_body {p q p' q' : List Nat} {n n' f : Nat} {M : List Nat} {v : Nat → Nat} {i : Nat} {s2 x6 x7 x8 x9 : Sl} (hp : Pm p n) (hq : Pm q n) (hp' : Pm p' n') (hq' : Pm q' n') (hn : n ≤ 500) (h : LJ p q p' q' n n' f M v i) (hi : i < M.length) :
    (∃ M' v' x6' x7' x8' x9', ldBody (ldEnv (.v (sheet p q)) (.v (sheet p' q')) s2 M v i x6 x7 x8 x9) = .next (ldEnv (.v (sheet p q)) (.v (sheet p' q')) s2 M' v' (i + 1) x6' x7' x8' x9') ∧ LJ p q p' q' n n' f M' v' (i + 1)) ∨
    (ldBody (ldEnv (.v (sheet p q)) (.v (sheet p' q')) s2 M v i x6 x7 x8 x9) = .ret (.v .none) ∧ ∀ g, ¬ HomP p q p' q' n n' f g) := by
  have e1 := ix_rowW hi
  have hx := ap_memL hi
  have ez : zipF (aCons (varF 0) (aCons (varF 1) aNil)) (ldEnv (.v (sheet p q)) (.v (sheet p' q')) s2 M v i (.v (.int (ap M i : Nat))) x7 x8 x9) = .ok [.v (.tuple [.tuple (nD p), .tuple (nD p')]), .v (.tuple [.tuple (nD q), .tuple (nD q')])] := rfl
  have g1 : ldBody (ldEnv (.v (sheet p q)) (.v (sheet p' q')) s2 M v i x6 x7 x8 x9) = seqR (forL (unpT [asgn 7, asgn 8]) ldIn [.v (.tuple [.tuple (nD p), .tuple (nD p')]), .v (.tuple [.tuple (nD q), .tuple (nD q')])] (ldEnv (.v (sheet p q)) (.v (sheet p' q')) s2 M v i (.v (.int (ap M i : Nat))) x7 x8 x9)) (asgS (binF addR (varF 5) (cF (.int 1))) (asgn 5)) := by
    unfold ldBody
    rw [seq_go (ρ' := ldEnv (.v (sheet p q)) (.v (sheet p' q')) s2 M v i (.v (.int (ap M i : Nat))) x7 x8 x9) (by unfold ldEnv; simp [e1])]
    rw [seqS_e, forS_e, ez]
    rfl
  rcases ld_half (s0 := .v (sheet p q)) (s1 := .v (sheet p' q')) (s2 := s2) (x9 := x9) (i := i) hp hp' (fun g hg => hg.2.2.1) hn h.li hx with ⟨M1, v1, y9, a1, l1, ⟨T1, t1⟩, k1, m1, c1⟩ | ⟨a1, no⟩
  · have hx1 : ap M i ∈ M1 := by rw [t1]; exact List.mem_append_left _ hx
    rcases ld_half (s0 := .v (sheet p q)) (s1 := .v (sheet p' q')) (s2 := s2) (x9 := y9) (i := i) hq hq' (fun g hg => hg.2.2.2) hn l1 hx1 with ⟨M2, v2, z9, a2, l2, ⟨T2, t2⟩, k2, m2, c2⟩ | ⟨a2, no⟩
    · left
      refine ⟨M2, v2, .v (.int (ap M i : Nat)), .v (.tuple (nD q)), .v (.tuple (nD q')), z9, ?_, l2, ?_, ?_⟩
      · rw [g1, forL_next (ρ1 := ldEnv (.v (sheet p q)) (.v (sheet p' q')) s2 M v i (.v (.int (ap M i : Nat))) (.v (.tuple (nD p))) (.v (.tuple (nD p'))) x9) rfl a1, forL_next (ρ1 := ldEnv (.v (sheet p q)) (.v (sheet p' q')) s2 M1 v1 i (.v (.int (ap M i : Nat))) (.v (.tuple (nD q))) (.v (.tuple (nD q'))) y9) rfl a2, forL_nil]
        unfold ldEnv
        simp
      · rw [t2, t1]
        simp
        omega
      · intro j hj
        have hM : ∀ t ∈ M, t ∈ M2 ∧ v2 t = v t := fun t ht => by
          have h1 : t ∈ M1 := by rw [t1]; exact List.mem_append_left _ ht
          exact ⟨by rw [t2]; exact List.mem_append_left _ h1, by rw [k2 t h1, k1 t ht]⟩
        have apj : ∀ j, j < M.length → ap M2 j = ap M j := fun j hj => by
          rw [t2, t1, List.append_assoc]
          show (M ++ (T1 ++ T2)).getD j 0 = M.getD j 0
          rw [List.getD_eq_getElem?_getD, List.getD_eq_getElem?_getD, List.getElem?_append_left hj]
        rw [apj j (by omega)]
        by_cases e : j = i
        · subst e
          have hp1 : ap p (ap M j) ∈ M2 := by rw [t2]; exact List.mem_append_left _ m1
          refine ⟨⟨hp1, ?_⟩, m2, c2⟩
          rw [k2 _ m1, c1, k2 _ hx1]
        · obtain ⟨⟨b1, b2⟩, b3, b4⟩ := h.dn j (by omega)
          have hjm := ap_memL (show j < M.length by omega)
          refine ⟨⟨(hM _ b1).1, ?_⟩, (hM _ b3).1, ?_⟩
          · rw [(hM _ b1).2, b2, (hM _ hjm).2]
          · rw [(hM _ b3).2, b4, (hM _ hjm).2]
    · right
      refine ⟨?_, no⟩
      rw [g1, forL_next (ρ1 := ldEnv (.v (sheet p q)) (.v (sheet p' q')) s2 M v i (.v (.int (ap M i : Nat))) (.v (.tuple (nD p))) (.v (.tuple (nD p'))) x9) rfl a1, forL_cons (ρ1 := ldEnv (.v (sheet p q)) (.v (sheet p' q')) s2 M1 v1 i (.v (.int (ap M i : Nat))) (.v (.tuple (nD q))) (.v (.tuple (nD q'))) y9) rfl, a2]
      rfl
  · right
    refine ⟨?_, no⟩
    rw [g1, forL_cons (ρ1 := ldEnv (.v (sheet p q)) (.v (sheet p' q')) s2 M v i (.v (.int (ap M i : Nat))) (.v (.tuple (nD p))) (.v (.tuple (nD p'))) x9) rfl, a1]
    rfl
theorem leading_ok {p q p' q' : List Nat} {n n' f : Nat} (hs : Sh p q n) (hp' : Pm p' n') (hq' : Pm q' n') (hn : n ≤ 500) (hf : f < n') :
    (∃ v, HomP p q p' q' n n' f v ∧ f_law_leading [.v (sheet p q), .v (sheet p' q'), .v (.int f)] = .ret (.o (nD (rowOf n v)))) ∨ ((∀ g, ¬ HomP p q p' q' n n' f g) ∧ f_law_leading [.v (sheet p q), .v (sheet p' q'), .v (.int f)] = .ret (.v .none)) := by
  have hw := whileS_rule (t := tstF (binF ltR (varF 5) (unF lenR (varF 4)))) (s := ldBody) (ρ := ldEnv (.v (sheet p q)) (.v (sheet p' q')) (.v (.int f)) [0] (fun _ => f) 0 .u .u .u .u)
    (fun ρ => ∃ M v i x6 x7 x8 x9, ρ = ldEnv (.v (sheet p q)) (.v (sheet p' q')) (.v (.int f)) M v i x6 x7 x8 x9 ∧ LJ p q p' q' n n' f M v i) (fun ρ => 1000 - (match slot ρ 5 with | .v (.int j) => j.toNat | _ => 0))
    (fun r => (∃ M v x6 x7 x8 x9, r = .next (ldEnv (.v (sheet p q)) (.v (sheet p' q')) (.v (.int f)) M v M.length x6 x7 x8 x9) ∧ LJ p q p' q' n n' f M v M.length) ∨ (r = .ret (.v .none) ∧ ∀ g, ¬ HomP p q p' q' n n' f g))
    ⟨[0], fun _ => f, 0, .u, .u, .u, .u, rfl, LI.one hs.pos hf (fun g hg => hg.1), by simp, fun j hj => by omega⟩ (by show 1000 - 0 < 1000000; omega) fun ρ ⟨M, v, i, x6, x7, x8, x9, eρ, h⟩ => by
      subst eρ
      have hl := h.li.len
      refine ⟨decide (i < M.length), by unfold ldEnv; simp [nD], fun hb => ?_, fun hb => ?_⟩
      · have hi : i < M.length := of_decide_eq_true hb
        rcases ld_body (s2 := .v (.int f)) (x6 := x6) (x7 := x7) (x8 := x8) (x9 := x9) hs.hp hs.hq hp' hq' hn h hi with ⟨M', v', y6, y7, y8, y9, e, h'⟩ | ⟨e, no⟩
        · rw [e]
          refine ⟨⟨M', v', i + 1, y6, y7, y8, y9, rfl, h'⟩, ?_⟩
          show 1000 - ((i + 1 : Nat) : Int).toNat < 1000 - ((i : Nat) : Int).toNat
          omega
        · rw [e]
          exact .inr ⟨rfl, no⟩
      · have hi : ¬ i < M.length := of_decide_eq_false hb
        have hi2 : i = M.length := by have := h.il; omega
        subst hi2
        exact .inl ⟨M, v, x6, x7, x8, x9, rfl, h⟩
  rcases hw with ⟨M, v, x6, x7, x8, x9, e, h⟩ | ⟨e, no⟩
  · left
    have hmem : ∀ x ∈ M, ∃ j, j < M.length ∧ ap M j = x := fun x hx => by
      obtain ⟨j, hj, ej⟩ := List.getElem_of_mem hx
      exact ⟨j, hj, ap_of (by rw [List.getElem?_eq_getElem hj, ej])⟩
    have hc : ∀ x ∈ M, (ap p x ∈ M ∧ v (ap p x) = ap p' (v x)) ∧ (ap q x ∈ M ∧ v (ap q x) = ap q' (v x)) := fun x hx => by
      obtain ⟨j, hj, rfl⟩ := hmem x hx
      exact h.dn j hj
    have hall := h.li.all hs (fun x hx => (hc x hx).1.1) (fun x hx => (hc x hx).2.1)
    have hpm := closed_full hs h.li.nd h.li.lt h.li.z fun x hx => ⟨(hc x hx).1.1, (hc x hx).2.1⟩
    have hML := hpm.len
    refine ⟨v, h.li.homP hall (fun x hx => (hc x hx).1.2) (fun x hx => (hc x hx).2.2), ?_⟩
    refine fnR_of ?_
    show (seqS _ (seqS _ (seqS _ (seqS (whileS (tstF (binF ltR (varF 5) (unF lenR (varF 4)))) ldBody) _)))) [.v (sheet p q), .v (sheet p' q'), .v (.int f), .u, .u, .u, .u, .u, .u, .u, .u] = _
    rw [seq_go (s := asgS (dispF (flatA [((cF (.int 0)), (varF 2))])) (asgn 3)) (ρ' := [.v (sheet p q), .v (sheet p' q'), .v (.int f), .k (kvG (ldV fun _ => f) [0]), .u, .u, .u, .u, .u, .u, .u]) rfl]
    rw [seq_go (ρ' := [.v (sheet p q), .v (sheet p' q'), .v (.int f), .k (kvG (ldV fun _ => f) [0]), .o (nD [0]), .u, .u, .u, .u, .u, .u]) (by simp [nD_one])]
    rw [seq_go (ρ' := ldEnv (.v (sheet p q)) (.v (sheet p' q')) (.v (.int f)) [0] (fun _ => f) 0 .u .u .u .u) (by unfold ldEnv; simp)]
    rw [seq_go e]
    rw [frzS_e, frzE_e]
    unfold ldEnv
    simp only [slot_4, sfrz_o, set_4]
    rw [retS_e]
    have hlen : (nD M).length = n := by simp [nD, hML]
    have e2 : lcF (rg1F (unF lenR (varF 4))) (asgn 10) [10] yesT (binF ixR (varF 3) (varF 10)) [.v (sheet p q), .v (sheet p' q'), .v (.int f), .k (kvG (ldV v) M), .v (.list (nD M)), .v (.int M.length), x6, x7, x8, x9, .u] = .ok (.o (nD (rowOf n v))) := lc_rg 10 v (by simp [hlen]) (by omega) fun x hx => ⟨.v (.int (v x : Nat)), by
      have e1 : ixR (.wk (kvG (ldV v) M)) (.v (.int x)) = .ok (.v (.int (v x : Nat))) := ix_kvG (k := false) (hall x hx)
      simp [e1], rfl⟩
    rw [e2]
    rfl
  · right
    refine ⟨no, fnR_of ?_⟩
    show (seqS _ (seqS _ (seqS _ (seqS (whileS (tstF (binF ltR (varF 5) (unF lenR (varF 4)))) ldBody) _)))) [.v (sheet p q), .v (sheet p' q'), .v (.int f), .u, .u, .u, .u, .u, .u, .u, .u] = _
    rw [seq_go (s := asgS (dispF (flatA [((cF (.int 0)), (varF 2))])) (asgn 3)) (ρ' := [.v (sheet p q), .v (sheet p' q'), .v (.int f), .k (kvG (ldV fun _ => f) [0]), .u, .u, .u, .u, .u, .u, .u]) rfl]
    rw [seq_go (ρ' := [.v (sheet p q), .v (sheet p' q'), .v (.int f), .k (kvG (ldV fun _ => f) [0]), .o (nD [0]), .u, .u, .u, .u, .u, .u]) (by simp [nD_one])]
    rw [seq_go (ρ' := ldEnv (.v (sheet p q)) (.v (sheet p' q')) (.v (.int f)) [0] (fun _ => f) 0 .u .u .u .u) (by unfold ldEnv; simp)]
    rw [seqS_e, e]
    rfl
/-- two sheets that are one but for their numbers are told the same -/
theorem same_ok {p q p' q' : List Nat} {n : Nat} (hs : Sh p q n) (ht : Sh p' q' n) (hn : n ≤ 500) (hi : IsoS n (p, q) (p', q')) : f_law_same [.v (sheet p q), .v (sheet p' q')] = .ret (.v (.bool true)) := by
  obtain ⟨g, hg, g1, g2⟩ := hi
  have hom : HomP p q p' q' n n (ap g 0) (ap g) := ⟨rfl, fun x hx => hg.ap_lt hx, fun x hx => (g1 x hx).symm, fun x hx => (g2 x hx).symm⟩
  have hlen : (nD p).length = n := by simp [nD, hs.hp.len]
  have hlen' : (nD p').length = n := by simp [nD, ht.hp.len]
  have i0 := ix_sh0 (p := p) (q := q)
  have i1 := ix_sh0 (p := p') (q := q')
  have dn : deq true (.int (n : Int)) (.int (n : Int)) = .ok (.bool false) := ne_same 1 rfl
  have de : deq false (.int (n : Int)) (.int (n : Int)) = .ok (.bool true) := eq_same 1 rfl
  have hf := hg.ap_lt hs.pos
  have hr := for_rgG (f := unF lenR (binF ixR (varF 1) (cF (.int 0)))) (s := (seqS (asgS (callF f_law_leading (aCons (varF 0) (aCons (varF 1) (aCons (varF 2) aNil)))) (asgn 3))
  (ifS (andT (tstF (binF notR (varF 3) (cF .none))) (tstF (binF eqR (lenSetF (varF 3)) (unF lenR (varF 3))))) (retS (cF (.bool true)))
  skipS))) (ρ := [.v (sheet p q), .v (sheet p' q'), .u, .u]) (n := n) 2 (fun i ρ => i ≤ ap g 0 ∧ ∃ x2 x3, ρ = [.v (sheet p q), .v (sheet p' q'), x2, x3]) (fun r => r = .ret (.v (.bool true))) (by simp [i1, hlen']) (by omega) ⟨by omega, .u, .u, rfl⟩ (fun i ρ hi ⟨hle, x2, x3, eρ⟩ => by
      subst eρ
      show (match (seqS _ _) [.v (sheet p q), .v (sheet p' q'), .v (.int i), x3] with | .next ρ' => _ | .cont ρ' => _ | .brk ρ' => _ | x => _)
      rcases leading_ok hs ht.hp ht.hq hn hi with ⟨v, hv, e⟩ | ⟨no, e⟩
      · have nd := hv.nodup hs ht
        have lv : (rowOf n v).length = n := by simp
        have el : lenSetF (varF 3) [.v (sheet p q), .v (sheet p' q'), .v (.int i), .o (nD (rowOf n v))] = .ok (.v (.int n)) := by
          rw [lenSetF_e]
          have nd2 : ((rowOf n v).map fun z : Nat => (z : Int)).Nodup := by
            rw [List.nodup_iff_pairwise_ne, List.pairwise_map]
            exact nd.imp fun {a b} hne e => hne (by omega)
          have l3 : ((rowOf n v).map fun z : Nat => (z : Int)).length = n := by rw [List.length_map, lv]
          show (match (Rv.w (nD (rowOf n v))).dat with
            | some (.list ys) => (match dInts ys with
              | some ns => if ns.Nodup ∧ ns.length ≤ 4000 then Er.ok (Rv.v (.int (ns.length : Nat))) else .bad
              | none => .bad)
            | _ => .bad) = _
          show (match dInts (nD (rowOf n v)) with
              | some ns => if ns.Nodup ∧ ns.length ≤ 4000 then Er.ok (Rv.v (.int (ns.length : Nat))) else .bad
              | none => .bad) = _
          rw [dInts_nD]
          simp only
          rw [if_pos ⟨nd2, by omega⟩, l3]
        rw [seq_go (ρ' := [.v (sheet p q), .v (sheet p' q'), .v (.int i), .o (nD (rowOf n v))]) (by simp [e])]
        have nn : notR (.w (nD (rowOf n v))) (.v .none) = .ok (.v (.bool true)) := rfl
        have l2 : (nD (rowOf n v)).length = n := by simp [nD]
        have er : (ifS (andT (tstF (binF notR (varF 3) (cF .none))) (tstF (binF eqR (lenSetF (varF 3)) (unF lenR (varF 3))))) (retS (cF (.bool true))) skipS) [.v (sheet p q), .v (sheet p' q'), .v (.int i), .o (nD (rowOf n v))] = .ret (.v (.bool true)) := by
          generalize nD (rowOf n v) = R at *
          simp only [ifS_e, andT, tstF_e, binF_e, varF_e, cF_e, slot_3, rd_o, bind_ok, nn, el, unF_e, lenR_w, l2]
          simp [de]
        rw [er]
      · rw [seq_go (ρ' := [.v (sheet p q), .v (sheet p' q'), .v (.int i), .v .none]) (by simp [e])]
        have nn : notR (.v .none) (.v .none) = .ok (.v (.bool false)) := rfl
        have er : (ifS (andT (tstF (binF notR (varF 3) (cF .none))) (tstF (binF eqR (lenSetF (varF 3)) (unF lenR (varF 3))))) (retS (cF (.bool true))) skipS) [.v (sheet p q), .v (sheet p' q'), .v (.int i), .v .none] = .next [.v (sheet p q), .v (sheet p' q'), .v (.int i), .v .none] := by
          have ds : dis true .none .none = .ok (.bool false) := rfl
          simp [andT, ds]
        rw [er]
        refine ⟨?_, _, _, rfl⟩
        have : i ≠ ap g 0 := fun z => no _ (z ▸ hom)
        omega) (fun ρ ⟨hle, _⟩ => by omega)
  refine fnR_of ?_
  show b_law_same [.v (sheet p q), .v (sheet p' q'), .u, .u] = _
  unfold b_law_same
  rw [seq_go (ρ' := [.v (sheet p q), .v (sheet p' q'), .u, .u]) (by simp [i0, i1, hlen, hlen', dn])]
  rw [seqS_e, hr]
  rfl

theorem whole_i (i : Int) : f_law_whole [.v (.int i)] = .ret (.v (.bool true)) := by
  refine fnR_of ?_
  show b_law_whole [.v (.int i)] = _
  unfold b_law_whole
  simp [isi_ii, isi_bi]
theorem all_whole_g {τ : IF} {ρ : Env} {k : Nat} {zs : List Int} (hτ : τ ρ = .ok (zs.map fun z : Int => Rv.v (.int z))) (hl : zs.length ≤ 1000) (hk : ∀ z : Int, varF k ((wipeE ρ [k]).set k (.v (.int z))) = .ok (.v (.int z))) : lcF τ (asgn k) [k] yesT (callF f_law_whole (aCons (varF k) aNil)) ρ = .ok (.o (List.replicate zs.length (.bool true))) := by
  rw [lcF_map zs (fun z : Int => Rv.v (.int z)) (fun _ => .bool true) hτ (by omega) fun z _ => ⟨(wipeE ρ [k]).set k (.v (.int z)), .v (.bool true), rfl, by
    have := hk z
    rw [callF_e, aCons_e, this]
    simp [whole_i], rfl⟩]
  simp [List.map_const']
theorem all_whole_n {τ : IF} {ρ : Env} {k : Nat} {zs : List Nat} (hτ : τ ρ = .ok (zs.map fun z : Nat => Rv.v (.int (z : Int)))) (hl : zs.length ≤ 1000) (hk : ∀ z : Int, varF k ((wipeE ρ [k]).set k (.v (.int z))) = .ok (.v (.int z))) : lcF τ (asgn k) [k] yesT (callF f_law_whole (aCons (varF k) aNil)) ρ = .ok (.o (List.replicate zs.length (.bool true))) := by
  rw [all_whole_g (zs := zs.map fun z : Nat => (z : Int)) (by rw [hτ, List.map_map]; rfl) (by rw [List.length_map]; exact hl) hk, List.length_map]

/-! the greatest divisor of two numbers -/
@[simp] theorem par_e {i j : Nat} {f g : EF} {ρ : Env} : parS i j (aCons f (aCons g aNil)) ρ = (match ((f ρ).bind fun a => a.frz.bind fun a' => (g ρ).bind fun b => b.frz.bind fun b' => Er.ok (a', b')) with | .ok (a, b) => liftE ρ ((asgn i a ρ).bind fun ρ' => asgn j b ρ') | .exc c p => .exc c p ρ | .bad => .bad) := by
  unfold parS
  simp only [aCons_e, aNil_e]
  cases f ρ with
  | ok a =>
    simp only [bind_ok]
    cases a.frz with
    | ok a' =>
      simp only [bind_ok]
      cases g ρ with
      | ok b =>
        simp only [bind_ok]
        cases b.frz <;> rfl
      | _ => rfl
    | _ => rfl
  | _ => rfl
/-! the way, drawn -/
def gcdW : SF := parS 0 1 (aCons (varF 1) (aCons (binF (flat2 (int2 imod)) (varF 0) (varF 1)) aNil))
theorem law_gcd_ok (p q : Int) : f_law_gcd [.v (.int p), .v (.int q)] = .ret (.v (.int (Int.gcd p q))) ∨ 1000000 ≤ q.natAbs := by
  by_cases hq : q.natAbs < 1000000
  · left
    have hw := whileS_go (t := tstF (binF neR (varF 1) (cF (.int 0)))) (s := gcdW) (ρ := [.v (.int (p.natAbs : Nat)), .v (.int (q.natAbs : Nat))])
      (fun ρ => ∃ a b : Nat, ρ = [.v (.int a), .v (.int b)] ∧ Nat.gcd a b = Int.gcd p q) (fun ρ => match slot ρ 1 with | .v (.int j) => j.toNat | _ => 0)
      ⟨_, _, rfl, rfl⟩ (by show ((q.natAbs : Nat) : Int).toNat < 1000000; omega) ?_
    · obtain ⟨ρ', e, ⟨a, b, eρ, hg⟩, ht⟩ := hw
      subst eρ
      have hb : b = 0 := by
        simp at ht
        omega
      subst hb
      rw [Nat.gcd_zero_right] at hg
      refine fnR_of ?_
      show b_law_gcd [.v (.int p), .v (.int q)] = _
      have a1 : (if p < 0 then -p else p) = (p.natAbs : Int) := by omega
      have a2 : (if q < 0 then -q else q) = (q.natAbs : Int) := by omega
      show (seqS (parS 0 1 (aCons (unF absR (varF 0)) (aCons (unF absR (varF 1)) aNil))) (seqS (whileS (tstF (binF neR (varF 1) (cF (.int 0)))) gcdW) (retVar 0))) _ = _
      rw [seq_go (ρ' := [.v (.int (p.natAbs : Nat)), .v (.int (q.natAbs : Nat))]) (by simp [a1, a2]), seq_go e, hg]
      simp
    · intro ρ ⟨a, b, eρ, hg⟩
      subst eρ
      refine ⟨decide (¬ b = 0), by simp, fun hb => ?_⟩
      have hb : 0 < b := by simp at hb; omega
      have hm := mod_nat a b hb
      refine ⟨[.v (.int b), .v (.int (a % b : Nat))], ?_, ⟨_, _, rfl, ?_⟩, ?_⟩
      · unfold gcdW
        generalize a % b = r at *
        simp [hm]
      · rw [← hg, Nat.gcd_comm b, ← Nat.gcd_rec, Nat.gcd_comm]
      · show ((a % b : Nat) : Int).toNat < ((b : Nat) : Int).toNat
        have := Nat.mod_lt a hb
        omega
  · right
    omega

/-! a sheet sheared as often as each band comes round -/
theorem lvl_uniq {p q : List Nat} {n : Nat} {m : List Nat} {y z j i : Nat} {b c : Bn} (g : Gd p q n m) (hp : Pm p n) (hq : Pm q n) (hy : y < n) (hz : z < n) (hMy : Mk p n m y) (hMz : Mk p n m z) (hb : IsB p q n m y b) (hc : IsB p q n m z c) (hj : j < b.wid) (hi : i < c.wid) (e : it q j y = it q i z) : y = z ∧ j = i := by
  have key : ∀ {y z j i : Nat} {c : Bn}, y < n → z < n → Mk p n m y → IsB p q n m z c → i < c.wid → j ≤ i → it q j y = it q i z → y = z ∧ j = i := fun {y z j i c} hy hz hMy hc hi hji e => by
    have e1 : it q j y = it q j (it q (i - j) z) := by rw [← it_add, show j + (i - j) = i by omega]; exact e
    have e2 := it_inj hq hy (it_lt hq hz _) j e1
    by_cases h0 : i - j = 0
    · rw [h0] at e2
      exact ⟨e2, by omega⟩
    · obtain ⟨k, hk⟩ := hMy
      rw [e2, ← hc.comm g hp hq hz (i - j) (by omega) k] at hk
      exact (hc.low (i - j) (by omega) (by omega) k hk).elim
  rcases Nat.le_total j i with h | h
  · exact key hy hz hMy hc hi h e
  · obtain ⟨h1, h2⟩ := key hz hy hMz hb hj h e.symm
    exact ⟨h1.symm, h2.symm⟩
theorem mk_zt {p : List Nat} {n : Nat} {m : List Nat} {y : Nat} (hp : Pm p n) (hy : y < n) (j : Int) (h : Mk p n m (zt p n j y)) : Mk p n m y := by
  obtain ⟨k, hk⟩ := h
  rw [← zt_add hp hy] at hk
  exact ⟨_, hk⟩
theorem mk_up {p : List Nat} {n : Nat} {m : List Nat} {y : Nat} (hp : Pm p n) (hy : y < n) (j : Int) (h : Mk p n m y) : Mk p n m (zt p n j y) := by
  obtain ⟨k, hk⟩ := h
  refine ⟨k - j, ?_⟩
  rw [← zt_add hp hy, show k - j + j = k by omega]
  exact hk
theorem band_of_mk {p q : List Nat} {n : Nat} {m : List Nat} {y : Nat} (hp : Pm p n) (hq : Pm q n) (hy : y < n) (hM : Mk p n m y) : ∃ b, b ∈ bandLm p q n m ∧ IsB p q n m y b := by
  obtain ⟨r, hr, ho, hm⟩ := rep_ex hp (y + 1) y (by omega) hy
  have hrn : r < n := by omega
  obtain ⟨k, hk, ek⟩ := mem_cyc hm
  have ez : zt p n (k : Int) r = y := ek
  have hMr : Mk p n m r := mk_zt hp hrn k (by rw [ez]; exact hM)
  have hb := isB_of hp hq hrn hMr
  refine ⟨bandOf q (cyc p n r) m n, ?_, ?_⟩
  · refine List.mem_map.mpr ⟨cyc p n r, List.mem_filter.mpr ⟨List.mem_map.mpr ⟨r, List.mem_filter.mpr ⟨List.mem_range.mpr hrn, ho⟩, rfl⟩, (hasM_cyc hp hrn).mpr hMr⟩, rfl⟩
  · have := hb.shift hp hrn (k : Int)
    rwa [ez] at this
theorem top_mk {p q : List Nat} {n : Nat} {m : List Nat} {y : Nat} {b : Bn} (g : Gd p q n m) (hp : Pm p n) (hq : Pm q n) (hy : y < n) (hb : IsB p q n m y b) : Mk p n m (it q b.wid y) := by
  have w0 := hb.w0
  have e : it q b.wid y = ap q (it q (b.wid - 1) y) := by
    show _ = it q (b.wid - 1 + 1) y
    rw [show b.wid - 1 + 1 = b.wid by omega]
  refine Classical.byContradiction fun hno => ?_
  have hz := it_lt hq hy (b.wid - 1)
  have hu : ∀ k : Int, zt p n k (ap q (it q (b.wid - 1) y)) ∉ m := fun k hk => hno ⟨k, by rw [e]; exact hk⟩
  obtain ⟨k, hk⟩ := hb.up
  have e2 : it q b.wid (zt p n k y) = zt p n k (ap q (it q (b.wid - 1) y)) := by
    have e3 : it q b.wid (zt p n k y) = ap q (it q (b.wid - 1) (zt p n k y)) := by
      show _ = it q (b.wid - 1 + 1) (zt p n k y)
      rw [show b.wid - 1 + 1 = b.wid by omega]
    rw [e3, hb.comm g hp hq hy (b.wid - 1) (by omega) k]
    exact row_up g hp hq hz hu k
  rw [e2] at hk
  exact hu k hk
theorem twist_iso {p q q' : List Nat} {n : Nat} {c : Int} (h : Sh p q n) (hq' : Pm q' n) (e : ∀ x, x < n → ap q' x = ap q (zt p n (-c) x)) (hb : ∀ b ∈ bandL p q n, (c * (b.wid : Nat)) % (b.len : Nat) = 0) : IsoS n (p, q) (p, q') := by
  have hp := h.hp
  have hq := h.hq
  have g := gd_marks hp hq
  have g' := gd_marks hp hq'
  rw [shear_marks hp hq hq' e] at g'
  have hm := marks_ex hp hq h.pos
  have hb' : ∀ b ∈ bandLm p q n (marksL p q n), (c * (b.wid : Nat)) % (b.len : Nat) = 0 := hb
  generalize marksL p q n = m at *
  have lv : ∀ x, x < n → ∃ y j, y < n ∧ Mk p n m y ∧ (∃ b, b ∈ bandLm p q n m ∧ IsB p q n m y b ∧ j < b.wid) ∧ it q j y = x := fun x hx => by
    obtain ⟨y, j, hy, hM, hj, ex⟩ := lvl_ex h g hm hx
    obtain ⟨b, hbm, hI⟩ := band_of_mk hp hq hy hM
    exact ⟨y, j, hy, hM, ⟨b, hbm, hI, hj b hI⟩, ex⟩
  obtain ⟨Y, J, hYJ⟩ : ∃ Y J : Nat → Nat, ∀ x, x < n → Y x < n ∧ Mk p n m (Y x) ∧ (∃ b, b ∈ bandLm p q n m ∧ IsB p q n m (Y x) b ∧ J x < b.wid) ∧ it q (J x) (Y x) = x :=
    ⟨fun x => if hx : x < n then (lv x hx).choose else 0, fun x => if hx : x < n then (lv x hx).choose_spec.choose else 0, fun x hx => by
      simp only [dif_pos hx]
      exact (lv x hx).choose_spec.choose_spec⟩
  let G : Nat → Nat := fun x => it q' (J x) (Y x)
  have key : ∀ y j b, y < n → Mk p n m y → IsB p q n m y b → j < b.wid → G (it q j y) = it q' j y := fun y j b hy hM hI hj => by
    have hx := it_lt hq hy j
    obtain ⟨s1, s2, ⟨b2, _, s3, s4⟩, s5⟩ := hYJ _ hx
    obtain ⟨u1, u2⟩ := lvl_uniq g hp hq s1 hy s2 hM s3 hI s4 hj s5
    show it q' (J (it q j y)) (Y (it q j y)) = _
    rw [u1, u2]
  have pmG : Pm (rowOf n G) n := by
    refine pm_rowOf (fun x hx => ?_) fun x z hx hz ee => ?_
    · obtain ⟨y, j, hy, hM, ⟨b, _, hI, hj⟩, ex⟩ := lv x hx
      rw [← ex, key y j b hy hM hI hj]
      exact it_lt hq' hy j
    · obtain ⟨y, j, hy, hM, ⟨b, _, hI, hj⟩, ex⟩ := lv x hx
      obtain ⟨y2, j2, hy2, hM2, ⟨b2, _, hI2, hj2⟩, ex2⟩ := lv z hz
      rw [← ex, ← ex2, key y j b hy hM hI hj, key y2 j2 b2 hy2 hM2 hI2 hj2] at ee
      have i1 := shear_isB g hp hq hy hI e
      have i2 := shear_isB g hp hq hy2 hI2 e
      obtain ⟨u1, u2⟩ := lvl_uniq g' hp hq' hy hy2 hM hM2 i1 i2 hj hj2 ee
      rw [← ex, ← ex2, u1, u2]
  refine ⟨rowOf n G, pmG, fun x hx => ?_, fun x hx => ?_⟩
  · show ap p (ap (rowOf n G) x) = ap (rowOf n G) (ap p x)
    rw [ap_rowOf hx, ap_rowOf (hp.ap_lt hx)]
    obtain ⟨y, j, hy, hM, ⟨b, _, hI, hj⟩, ex⟩ := lv x hx
    have e1 : ap p x = it q j (ap p y) := by
      rw [← ex, ← zt_one (n := n), ← zt_one (n := n), hI.comm g hp hq hy j hj 1]
    have I1 := hI.shift hp hy 1
    have M1 := mk_up hp hy 1 hM
    rw [zt_one] at I1 M1
    rw [e1, key (ap p y) j b (hp.ap_lt hy) M1 I1 hj, ← ex, key y j b hy hM hI hj]
    have J := shear_isB g hp hq hy hI e
    rw [← zt_one (n := n), ← zt_one (n := n), J.comm g' hp hq' hy j hj 1]
  · show ap q' (ap (rowOf n G) x) = ap (rowOf n G) (ap q x)
    rw [ap_rowOf hx, ap_rowOf (hq.ap_lt hx)]
    obtain ⟨y, j, hy, hM, ⟨b, hbm, hI, hj⟩, ex⟩ := lv x hx
    have e1 : ap q x = it q (j + 1) y := by rw [← ex]; rfl
    rw [← ex, key y j b hy hM hI hj, show ap q (it q j y) = it q (j + 1) y from rfl]
    show it q' (j + 1) y = _
    by_cases hj1 : j + 1 < b.wid
    · rw [key y (j + 1) b hy hM hI hj1]
    · have hw : j + 1 = b.wid := by omega
      rw [hw]
      have hT := top_mk g hp hq hy hI
      have hTn := it_lt hq hy b.wid
      obtain ⟨b2, _, hI2⟩ := band_of_mk hp hq hTn hT
      have k0 := key (it q b.wid y) 0 b2 hTn hT hI2 hI2.w0
      have k0' : G (it q b.wid y) = it q b.wid y := k0
      rw [k0']
      have s := shear_it g hp hq hy hI e b.wid (Nat.le_refl _) 0
      rw [zt_zero] at s
      rw [s]
      have hz : (c * (b.wid : Nat)) % (ordr p n y : Nat) = 0 := by
        rw [← hI.len]
        exact hb' b hbm
      have : zt p n (0 - c * (b.wid : Nat)) y = zt p n 0 y := zt_congr hp hy (by
        rw [Int.zero_emod, Int.zero_sub]
        exact Int.emod_eq_zero_of_dvd (Int.dvd_neg.mpr (Int.dvd_of_emod_eq_zero hz)))
      rw [this, zt_zero]

def alR (s m : Nat) : List Nat := rowOf m fun x => x - x % s + (x + 1) % s
def alF (s x : Nat) : Nat := x - x % s + (x + 1) % s
def alC : Bool := (List.range 5).all fun s => (List.range 4).all fun k => (List.range (s * k)).all fun x => decide (alF s x < s * k) && (List.range (s * k)).all fun y => !decide (alF s x = alF s y) || decide (x = y)
theorem al_chk : alC = true := by decide +kernel
theorem al_pm {s k : Nat} (hs : s < 5) (hk : k < 4) (h0 : 0 < s) : Pm (alR s (s * k)) (s * k) := by
  have h1 := List.all_eq_true.mp (List.all_eq_true.mp al_chk s (List.mem_range.mpr hs)) k (List.mem_range.mpr hk)
  have h2 := fun x hx => List.all_eq_true.mp h1 x (List.mem_range.mpr hx)
  refine pm_rowOf (fun x hx => ?_) fun x y hx hy e => ?_
  · have := h2 x hx
    rw [Bool.and_eq_true] at this
    exact of_decide_eq_true this.1
  · have := h2 x hx
    rw [Bool.and_eq_true] at this
    have h3 := List.all_eq_true.mp this.2 y (List.mem_range.mpr hy)
    rw [Bool.or_eq_true] at h3
    rcases h3 with h3 | h3
    · have e2 : alF s x = alF s y := e
      simp [e2] at h3
    · exact of_decide_eq_true h3
theorem rows_alike_ok (ns : List Int) {s k : Nat} (hs : s < 5) (hk : k < 4) (h0 : 0 < s) (hk0 : 0 < k) : ∃ p q n, n ≤ s * k ∧ Sh p q n ∧ f_law_rows_alike [.v (.list (zD ns)), .v (.int (s * k : Nat)), .v (.int s)] = .ret (.v (sheet p q)) := by
  have hm0 : 0 < s * k := Nat.mul_pos h0 hk0
  have hm1 : s * k ≤ 16 := Nat.mul_le_mul (show s ≤ 4 by omega) (show k ≤ 4 by omega)
  have hpm := al_pm hs hk h0
  generalize s * k = m at *
  have e1 : lcF (rg1F (varF 1)) (asgn 4) [4] yesT (binF addR (binF (flat2 (int2 isub)) (varF 4) (binF (flat2 (int2 imod)) (varF 4) (varF 2))) (binF (flat2 (int2 imod)) (binF addR (varF 4) (cF (.int 1))) (varF 2))) [.v (.list (zD ns)), .v (.int (m : Nat)), .v (.int s), .u, .u, .u] = .ok (.o (nD (alR s m))) := by
    refine lc_rg 4 (fun x => x - x % s + (x + 1) % s) rfl (by omega) fun x hx => ⟨.v (.int (x - x % s + (x + 1) % s : Nat)), ?_, rfl⟩
    have m1 : imod (x : Int) (s : Int) = .ok (.int ((x % s : Nat) : Int)) := by rw [imod_s (by omega)]; rfl
    have m2 : imod ((x : Int) + 1) (s : Int) = .ok (.int (((x + 1) % s : Nat) : Int)) := by rw [imod_s (by omega)]; rfl
    have hle := Nat.mod_le x s
    have e : (x : Int) - ((x % s : Nat) : Int) + (((x + 1) % s : Nat) : Int) = ((x - x % s + (x + 1) % s : Nat) : Int) := by omega
    generalize ((x - x % s + (x + 1) % s : Nat) : Int) = z at *
    generalize ((x % s : Nat) : Int) = a at *
    generalize (((x + 1) % s : Nat) : Int) = b at *
    simp [m1, m2, e]
  obtain ⟨cs, hl, e3⟩ : ∃ cs : List Int, cs.length = m ∧ lcF (rg1F (varF 1)) (asgn 5) [5] yesT (callF f_law_spread (aCons (varF 0) (aCons (binF addR (cF (.int 2)) (varF 5)) aNil))) [.v (.list (zD ns)), .v (.int (m : Nat)), .v (.int s), .v (.list (nD (alR s m))), .u, .u] = .ok (.o (zD cs)) := by
    refine ⟨(List.range m).map fun x => (spread_ok ns (if x < m then 2 + x else 0) (by split <;> omega)).choose, by simp, ?_⟩
    rw [lcF_map (List.range m) (fun (i : Nat) => Rv.v (.int (i : Int))) (fun x : Nat => .int (spread_ok ns (if x < m then 2 + x else 0) (by split <;> omega)).choose) (by rw [rg1_nat (n := m) rfl (by omega)]; rfl) (by simp; omega) fun x hx => ?_]
    · simp [zD]
    · have hx := List.mem_range.mp hx
      refine ⟨[.v (.list (zD ns)), .v (.int (m : Nat)), .v (.int s), .v (.list (nD (alR s m))), .u, .v (.int x)], .v (.int (spread_ok ns (if x < m then 2 + x else 0) (by split <;> omega)).choose), rfl, ?_, rfl⟩
      have hc := (spread_ok ns (if x < m then 2 + x else 0) (by split <;> omega)).choose_spec
      generalize (spread_ok ns (if x < m then 2 + x else 0) (by split <;> omega)).choose = c at *
      rw [if_pos hx, Int.natCast_add] at hc
      have hc' : f_law_spread [.v (.list (zD ns)), .v (.int (2 + (x : Int)))] = .ret (.v (.int c)) := hc
      simp [hc']
  obtain ⟨b, hb, e4⟩ := rowc_ok cs (by omega)
  rw [hl] at hb
  obtain ⟨p, q, n, hn, h, e5⟩ := together2_ok hpm hb hm0 (by omega)
  refine ⟨p, q, n, hn, h, fnR_of ?_⟩
  show b_law_rows_alike [.v (.list (zD ns)), .v (.int (m : Nat)), .v (.int s), .u, .u, .u] = _
  unfold b_law_rows_alike
  rw [seq_go (ρ' := [.v (.list (zD ns)), .v (.int (m : Nat)), .v (.int s), .o (nD (alR s m)), .u, .u]) (by rw [asgS_e, e1]; rfl)]
  rw [frzS_e, frzE_e]
  simp only [slot_3, sfrz_o, set_3]
  simp [e3, e4, e5]
/-- how often all bands come round -/
def lnp (B : List Bn) : Nat := (B.map fun b => b.len).prod
theorem lnp_snoc (B : List Bn) (b : Bn) : lnp (B ++ [b]) = lnp B * b.len := by
  unfold lnp
  rw [List.map_append, List.prod_append]
  simp
theorem cube3 : ∀ x, 0 < x → x * x * x ≤ 3 ^ x
  | 0, h => by omega
  | 1, _ => by decide
  | 2, _ => by decide
  | 3, _ => by decide
  | x + 4, _ => by
    have ih := cube3 (x + 3) (by omega)
    have e : 3 ^ (x + 4) = 3 * 3 ^ (x + 3) := by rw [Nat.pow_succ, Nat.mul_comm]
    rw [e]
    refine Nat.le_trans ?_ (Nat.mul_le_mul_left 3 ih)
    have : ∀ y : Nat, (y + 4) * (y + 4) * (y + 4) ≤ 3 * ((y + 3) * (y + 3) * (y + 3)) := fun y => by
      have h1 : (y + 4) * (y + 4) * (y + 4) + (2 * y * y * y + 15 * y * y + 33 * y + 17) = 3 * ((y + 3) * (y + 3) * (y + 3)) := by grind
      omega
    exact this x
theorem lnp_cube : ∀ B : List Bn, (∀ b ∈ B, 0 < b.len ∧ 0 < b.wid) → lnp B * lnp B * lnp B ≤ 3 ^ tsum B
  | [], _ => by decide
  | b :: B, h => by
    have ih := lnp_cube B fun c hc => h c (List.mem_cons_of_mem _ hc)
    obtain ⟨h1, h2⟩ := h b List.mem_cons_self
    have e1 : lnp (b :: B) = b.len * lnp B := by unfold lnp; simp
    have e2 : tsum (b :: B) = b.len * b.wid + tsum B := by unfold tsum; simp
    rw [e1, e2, Nat.pow_add]
    have c1 := cube3 b.len h1
    have c2 : 3 ^ b.len ≤ 3 ^ (b.len * b.wid) := Nat.pow_le_pow_right (by decide) (Nat.le_mul_of_pos_right _ h2)
    have : b.len * lnp B * (b.len * lnp B) * (b.len * lnp B) = (b.len * b.len * b.len) * (lnp B * lnp B * lnp B) := by grind
    rw [this]
    exact Nat.mul_le_mul (Nat.le_trans c1 c2) ih
theorem lnp_le {B : List Bn} (h : ∀ b ∈ B, 0 < b.len ∧ 0 < b.wid) (hn : tsum B ≤ 12) : lnp B ≤ 81 := by
  have h1 := lnp_cube B h
  have h2 : 3 ^ tsum B ≤ 3 ^ 12 := Nat.pow_le_pow_right (by decide) hn
  refine Classical.byContradiction fun hc => ?_
  have h3 : 82 ≤ lnp B := by omega
  have h4 := Nat.mul_le_mul (Nat.mul_le_mul h3 h3) h3
  have h5 : (3 : Nat) ^ 12 = 531441 := by decide
  omega
theorem lnp_pre {A B : List Bn} (h : ∀ b ∈ A ++ B, 0 < b.len ∧ 0 < b.wid) (hn : tsum (A ++ B) ≤ 12) : lnp A ≤ 81 := by
  refine lnp_le (fun b hb => h b (List.mem_append_left _ hb)) ?_
  have : tsum (A ++ B) = tsum A + tsum B := by unfold tsum; simp
  omega
/-- one turn of the law's loop -/
def twIn : SF := (seqS (ifS (orT (notT (tstF (callF f_law_whole (aCons (binF ixR (varF 4) (cF (.int 0))) aNil)))) (orT (notT (tstF (callF f_law_whole (aCons (binF ixR (varF 4) (cF (.int 1))) aNil)))) (orT (tstF (binF ltR (binF ixR (varF 4) (cF (.int 0))) (cF (.int 1)))) (tstF (binF gtR (binF ixR (varF 4) (cF (.int 0))) (cF (.int 12))))))) (retS (cF (.bool false)))
  skipS)
  (seqS (asgS (binF (flat2 (int2 idiv)) (binF ixR (varF 4) (cF (.int 0))) (callF f_law_gcd (aCons (binF ixR (varF 4) (cF (.int 0))) (aCons (binF ixR (varF 4) (cF (.int 1))) aNil)))) (asgn 7))
  (asgS (binF (flat2 (int2 idiv)) (binF (flat2 (int2 imul)) (varF 3) (varF 7)) (callF f_law_gcd (aCons (varF 3) (aCons (varF 7) aNil)))) (asgn 3))))
def twEnv (s0 s1 s2 : Sl) (L : Nat) (x4 x6 x7 : Sl) : Env := [s0, s1, s2, .v (.int L), x4, .u, x6, x7]
theorem tw_in {s0 s1 s2 x6 x7 : Sl} {L : Nat} {b : Bn} (h1 : 0 < b.len) (h2 : b.len ≤ 12) (hw : b.wid ≤ 1000) (hL : 0 < L) (hL2 : L ≤ 1000) : ∃ x7', twIn (twEnv s0 s1 s2 L (.v b.D) x6 x7) = .next (twEnv s0 s1 s2 (Nat.lcm L (b.len / Nat.gcd b.len b.wid)) (.v b.D) x6 x7') := by
  have i0 : ixR (.v b.D) (.v (.int 0)) = .ok (.v (.int b.len)) := ixR_vt rfl
  have i1 : ixR (.v b.D) (.v (.int 1)) = .ok (.v (.int b.wid)) := ixR_vt rfl
  have w0 := whole_i (b.len : Int)
  have w1 := whole_i (b.wid : Int)
  have z1 : ¬ (b.len : Int) < 1 := by omega
  have z2 : ¬ (12 : Int) < b.len := by omega
  have g1 : f_law_gcd [.v (.int (b.len : Nat)), .v (.int (b.wid : Nat))] = .ret (.v (.int (Nat.gcd b.len b.wid : Nat))) := (law_gcd_ok _ _).resolve_right (by omega)
  have gp : 0 < Nat.gcd b.len b.wid := Nat.gcd_pos_of_pos_left _ h1
  have gle : Nat.gcd b.len b.wid ≤ b.len := Nat.gcd_le_left _ h1
  have d1 : idiv (b.len : Int) ((Nat.gcd b.len b.wid : Nat) : Int) = .ok (.int ((b.len / Nat.gcd b.len b.wid : Nat) : Int)) := by rw [idiv_s (by omega)]; rfl
  have tl : b.len / Nat.gcd b.len b.wid ≤ b.len := Nat.div_le_self _ _
  have tp : 0 < b.len / Nat.gcd b.len b.wid := Nat.div_pos (Nat.le_of_dvd h1 (Nat.gcd_dvd_left _ _)) gp
  generalize Nat.gcd b.len b.wid = g at *
  generalize b.len / g = t at *
  have mm := mul_nat L t (by omega)
  have g2 : f_law_gcd [.v (.int (L : Nat)), .v (.int (t : Nat))] = .ret (.v (.int (Nat.gcd L t : Nat))) := (law_gcd_ok _ _).resolve_right (by omega)
  have gp2 : 0 < Nat.gcd L t := Nat.gcd_pos_of_pos_left _ hL
  have gle2 : Nat.gcd L t ≤ L := Nat.gcd_le_left _ hL
  have d2 : idiv ((L * t : Nat) : Int) ((Nat.gcd L t : Nat) : Int) = .ok (.int ((Nat.lcm L t : Nat) : Int)) := by rw [idiv_s (by omega)]; rfl
  refine ⟨.v (.int (t : Nat)), ?_⟩
  unfold twIn
  rw [seq_go (ρ' := twEnv s0 s1 s2 L (.v b.D) x6 x7) (by unfold twEnv; simp [i0, i1, w0, w1, z1, z2])]
  rw [seq_go (ρ' := twEnv s0 s1 s2 L (.v b.D) x6 (.v (.int (t : Nat)))) (by unfold twEnv; simp [i0, i1, g1, d1])]
  unfold twEnv
  generalize Nat.gcd L t = G at *
  generalize Nat.lcm L t = C at *
  generalize ((L * t : Nat) : Int) = M at *
  simp [mm, g2, d2]
theorem tw_loop {s0 s1 s2 x6 : Sl} : ∀ (B A : List Bn) (L : Nat) (x4 x7 : Sl), (∀ b ∈ A ++ B, 0 < b.len ∧ b.len ≤ 12 ∧ 0 < b.wid ∧ b.wid ≤ 1000) → tsum (A ++ B) ≤ 12 → 0 < L → L ≤ lnp A → (∀ b ∈ A, b.len / Nat.gcd b.len b.wid ∣ L) →
    ∃ L' x4' x7', 0 < L' ∧ L' ≤ 81 ∧ (∀ b ∈ A ++ B, b.len / Nat.gcd b.len b.wid ∣ L') ∧ forL (asgn 4) twIn (B.map fun b => Rv.v b.D) (twEnv s0 s1 s2 L x4 x6 x7) = .next (twEnv s0 s1 s2 L' x4' x6 x7')
  | [], A, L, x4, x7, hb, hn, h0, hl, hd => by
    refine ⟨L, x4, x7, h0, Nat.le_trans hl (lnp_pre (B := []) (fun b hb' => ⟨(hb b hb').1, (hb b hb').2.2.1⟩) hn), ?_, rfl⟩
    rw [List.append_nil]
    exact hd
  | b :: B, A, L, x4, x7, hb, hn, h0, hl, hd => by
    obtain ⟨b1, b2, b3, b4⟩ := hb b (by simp)
    have hL := lnp_pre (fun b hb' => ⟨(hb b hb').1, (hb b hb').2.2.1⟩) hn
    obtain ⟨y7, e⟩ := tw_in (s0 := s0) (s1 := s1) (s2 := s2) (x6 := x6) (x7 := x7) b1 b2 b4 h0 (by omega)
    have gp : 0 < Nat.gcd b.len b.wid := Nat.gcd_pos_of_pos_left _ b1
    have tp : 0 < b.len / Nat.gcd b.len b.wid := Nat.div_pos (Nat.le_of_dvd b1 (Nat.gcd_dvd_left _ _)) gp
    have tl : b.len / Nat.gcd b.len b.wid ≤ b.len := Nat.div_le_self _ _
    have eA : A ++ b :: B = (A ++ [b]) ++ B := by simp
    rw [eA] at hb hn ⊢
    have hll : Nat.lcm L (b.len / Nat.gcd b.len b.wid) ≤ lnp (A ++ [b]) := by
      rw [lnp_snoc]
      refine Nat.le_trans (Nat.le_of_dvd (Nat.mul_pos h0 tp) (Nat.lcm_dvd_mul _ _)) (Nat.mul_le_mul hl tl)
    obtain ⟨L', y4, z7, q1, q2, q3, e2⟩ := tw_loop (s0 := s0) (s1 := s1) (s2 := s2) (x6 := x6) B (A ++ [b]) _ (.v b.D) y7 hb hn (Nat.lcm_pos h0 tp) hll fun c hc => by
      rcases List.mem_append.mp hc with hc | hc
      · exact Nat.dvd_trans (hd c hc) (Nat.dvd_lcm_left _ _)
      · rw [List.mem_singleton.mp hc]
        exact Nat.dvd_lcm_right _ _
    refine ⟨L', y4, z7, q1, q2, q3, ?_⟩
    rw [List.map_cons, forL_next (ρ1 := twEnv s0 s1 s2 L (.v b.D) x6 x7) rfl e, e2]
theorem le_tsum : ∀ {B : List Bn} {b : Bn}, b ∈ B → b.len * b.wid ≤ tsum B
  | c :: B, b, h => by
    have e : tsum (c :: B) = c.len * c.wid + tsum B := by unfold tsum; simp
    rw [e]
    rcases List.mem_cons.mp h with h | h
    · subst h
      omega
    · have := le_tsum h
      omega
theorem tw_zero {L ln w : Nat} (h0 : 0 < ln) (h : ln / Nat.gcd ln w ∣ L) : ((L : Int) * (w : Nat)) % (ln : Nat) = 0 := by
  have d1 := Nat.gcd_dvd_left ln w
  have d2 := Nat.gcd_dvd_right ln w
  obtain ⟨k, hk⟩ := h
  obtain ⟨v, hv⟩ := d2
  have hg : ln / Nat.gcd ln w * Nat.gcd ln w = ln := Nat.div_mul_cancel d1
  have : ln ∣ L * w := by
    refine ⟨k * v, ?_⟩
    generalize Nat.gcd ln w = g at *
    generalize ln / g = t at *
    rw [hk, hv, ← hg]
    grind
  have h2 := Nat.mod_eq_zero_of_dvd this
  have : ((L * w % ln : Nat) : Int) = 0 := by rw [h2]; rfl
  simpa using this
set_option maxHeartbeats 1000000 in
theorem law_k65 (ns : List Int) : f_law_k65_whole_twists_come_round [.v (.list (zD ns))] = .ret (.v (.bool true)) := by
  obtain ⟨c0, hc0⟩ := cell_at_ok ns 0
  have hc0' : f_law_cell_at [.v (.list (zD ns)), .v (.int 0)] = .ret (.v (.int c0)) := hc0
  have d2 : idiv c0 2 = .ok (.int (c0 / 2)) := idiv_s (by decide)
  have d4 : idiv c0 4 = .ok (.int (c0 / 4)) := idiv_s (by decide)
  have d16 : idiv c0 16 = .ok (.int (c0 / 16)) := idiv_s (by decide)
  obtain ⟨r, hr, mr⟩ := mod_ok (c := c0) 4 (by decide)
  obtain ⟨m, hm, mm⟩ := mod_ok (c := c0 / 2) 12 (by decide)
  obtain ⟨m2, hm2, mm2⟩ := mod_ok (c := c0 / 4) 12 (by decide)
  obtain ⟨s, hs, ms⟩ := mod_ok (c := c0 / 4) 4 (by decide)
  obtain ⟨k, hk, mk⟩ := mod_ok (c := c0 / 16) 3 (by decide)
  simp only [Int.cast_ofNat_Int] at mr mm mm2 ms mk
  obtain ⟨p0, q0, n0, hn0, h0, e0⟩ := sheet_by3_ok ns (1 + m) (by omega) (by omega)
  have e0' : f_law_sheet_by_3 [.v (.list (zD ns)), .v (.int (1 + (m : Int)))] = .ret (.v (sheet p0 q0)) := by rw [show 1 + (m : Int) = ((1 + m : Nat) : Int) by omega]; exact e0
  obtain ⟨p1, q1, n1, hn1, h1, e1⟩ := sheet2_ok ns 2 (1 + m2) (by omega) (by omega) (by omega)
  have e1' : f_law_sheet_2 [.v (.list (zD ns)), .v (.int 2), .v (.int (1 + (m2 : Int)))] = .ret (.v (sheet p1 q1)) := by rw [show 1 + (m2 : Int) = ((1 + m2 : Nat) : Int) by omega]; exact e1
  obtain ⟨p2, q2, n2, hn2, h2, e2⟩ := rows_alike_ok ns (s := 1 + s) (k := 1 + k) (by omega) (by omega) (by omega) (by omega)
  have hmul : (1 + s) * (1 + k) ≤ 4 * 3 := Nat.mul_le_mul (by omega) (by omega)
  have mul1 : imul (1 + (s : Int)) (1 + (k : Int)) = .ok (.int (((1 + s) * (1 + k) : Nat) : Int)) := by
    rw [show 1 + (s : Int) = ((1 + s : Nat) : Int) by omega, show 1 + (k : Int) = ((1 + k : Nat) : Int) by omega]
    exact mul_nat _ _ (by omega)
  have e2' : f_law_rows_alike [.v (.list (zD ns)), .v (.int (((1 + s) * (1 + k) : Nat) : Int)), .v (.int (1 + (s : Int)))] = .ret (.v (sheet p2 q2)) := by rw [show 1 + (s : Int) = ((1 + s : Nat) : Int) by omega]; exact e2
  generalize (1 + s) * (1 + k) = sk at *
  have dr : ∀ z : Int, deq false (.int (r : Int)) (.int z) = .ok (.bool (decide ((r : Int) = z))) := fun z => eq_dec (p := (r : Int) = z) 1 rfl rfl ⟨fun e => by injection e, fun e => by rw [e]⟩
  obtain ⟨p, q, n, hn, h, x6, eB⟩ : ∃ (p q : List Nat) (n : Nat), n ≤ 12 ∧ Sh p q n ∧ ∃ x6 : Sl, ∀ rest : SF, (seqS (ifS (tstF (binF eqR (binF (flat2 (int2 imod)) (varF 1) (cF (.int 4))) (cF (.int 1)))) (asgS (callF f_law_sheet_2 (aCons (varF 0) (aCons (cF (.int 2)) (aCons (binF addR (cF (.int 1)) (binF (flat2 (int2 imod)) (binF (flat2 (int2 idiv)) (varF 1) (cF (.int 4))) (cF (.int 12)))) aNil)))) (asgn 2))
  skipS)
  (seqS (ifS (tstF (binF eqR (binF (flat2 (int2 imod)) (varF 1) (cF (.int 4))) (cF (.int 3)))) (seqS (asgS (binF addR (cF (.int 1)) (binF (flat2 (int2 imod)) (binF (flat2 (int2 idiv)) (varF 1) (cF (.int 4))) (cF (.int 4)))) (asgn 6))
  (asgS (callF f_law_rows_alike (aCons (varF 0) (aCons (binF (flat2 (int2 imul)) (varF 6) (binF addR (cF (.int 1)) (binF (flat2 (int2 imod)) (binF (flat2 (int2 idiv)) (varF 1) (cF (.int 16))) (cF (.int 3))))) (aCons (varF 6) aNil)))) (asgn 2)))
  skipS) rest)) [.v (.list (zD ns)), .v (.int c0), .v (sheet p0 q0), .u, .u, .u, .u, .u] = rest [.v (.list (zD ns)), .v (.int c0), .v (sheet p q), .u, .u, .u, x6, .u] := by
    generalize c0 / 4 = c4 at *
    generalize c0 / 16 = c16 at *
    by_cases r1 : r = 1
    · subst r1
      refine ⟨p1, q1, n1, by omega, h1, .u, fun rest => ?_⟩
      rw [seq_go (ρ' := [.v (.list (zD ns)), .v (.int c0), .v (sheet p1 q1), .u, .u, .u, .u, .u]) (by simp [mr, dr, d4, mm2, e1'])]
      rw [seq_go (ρ' := [.v (.list (zD ns)), .v (.int c0), .v (sheet p1 q1), .u, .u, .u, .u, .u]) (by simp [mr, dr])]
    · by_cases r3 : r = 3
      · subst r3
        refine ⟨p2, q2, n2, by omega, h2, .v (.int (1 + (s : Int))), fun rest => ?_⟩
        rw [seq_go (ρ' := [.v (.list (zD ns)), .v (.int c0), .v (sheet p0 q0), .u, .u, .u, .u, .u]) (by simp [mr, dr])]
        rw [seq_go (ρ' := [.v (.list (zD ns)), .v (.int c0), .v (sheet p2 q2), .u, .u, .u, .v (.int (1 + (s : Int))), .u]) (by
          rw [ifS_e, show tstF (binF eqR (binF (flat2 (int2 imod)) (varF 1) (cF (.int 4))) (cF (.int 3))) [.v (.list (zD ns)), .v (.int c0), .v (sheet p0 q0), .u, .u, .u, .u, .u] = .ok true from by simp [mr, dr], thenT_ok, if_pos rfl]
          rw [seq_go (ρ' := [.v (.list (zD ns)), .v (.int c0), .v (sheet p0 q0), .u, .u, .u, .v (.int (1 + (s : Int))), .u]) (by simp [d4, ms])]
          generalize 1 + (s : Int) = S at *
          simp [d16, mk, mul1, e2'])]
      · refine ⟨p0, q0, n0, by omega, h0, .u, fun rest => ?_⟩
        have z1 : ¬ (r : Int) = 1 := by omega
        have z3 : ¬ (r : Int) = 3 := by omega
        rw [seq_go (ρ' := [.v (.list (zD ns)), .v (.int c0), .v (sheet p0 q0), .u, .u, .u, .u, .u]) (by simp [mr, dr, z1])]
        rw [seq_go (ρ' := [.v (.list (zD ns)), .v (.int c0), .v (sheet p0 q0), .u, .u, .u, .u, .u]) (by simp [mr, dr, z3])]
  have hp := h.hp
  have hq := h.hq
  have b1 := bands_ok hp hq (show n ≤ 1000 by omega)
  have pm : (bandsS p q n).Perm (bandL p q n) := List.mergeSort_perm _ _
  have ht : tsum (bandsS p q n) ≤ 12 := by
    unfold tsum
    rw [(pm.map fun b => b.len * b.wid).sum_nat]
    have := cover_all h
    unfold tsum at this
    omega
  have hin : ∀ b ∈ bandsS p q n, 0 < b.len ∧ b.len ≤ 12 ∧ 0 < b.wid ∧ b.wid ≤ 1000 := fun b hb => by
    obtain ⟨y, hy, _, hi⟩ := bandL_mem hp hq (show b ∈ bandLm p q n (marksL p q n) from pm.mem_iff.mp hb)
    have o := ordr_spec hp hy
    have hl := hi.len
    have w0 := hi.w0
    have hle : b.len * b.wid ≤ tsum (bandsS p q n) := le_tsum hb
    have : b.wid ≤ b.len * b.wid := Nat.le_mul_of_pos_left _ (by omega)
    exact ⟨by omega, by omega, w0, by omega⟩
  obtain ⟨L, x4, x7, L0, L1, hd, eT⟩ := tw_loop (s0 := .v (.list (zD ns))) (s1 := .v (.int c0)) (s2 := .v (sheet p q)) (x6 := x6) (bandsS p q n) [] 1 .u .u (by simpa using hin) (by simpa using ht) (by decide) (by decide) (fun _ h => nomatch h)
  rw [List.nil_append] at hd
  have rp := srep_tx (w := [115]) (k := L) (by decide) (by omega)
  rw [flat_rep1] at rp
  have rp' : srep (.str "s") (.int (L : Int)) = .ok (.str (tx (List.replicate L 115))) := rp
  have mv := moved3_ok hp hq (show n ≤ 1000 by omega) (st_rep115 L) (by simp; omega)
  obtain ⟨f1, f2⟩ := mv_shear (n := n) L (p, q) ⟨hp, hq⟩
  have fm := mvW_pm (n := n) (List.replicate L 115) (s := (p, q)) ⟨hp, hq⟩
  have fs : Sh (mvW n (p, q) (List.replicate L 115)).1 (mvW n (p, q) (List.replicate L 115)).2 n := sh_mvW (List.replicate L 115) (s := (p, q)) h
  generalize mvW n (p, q) (List.replicate L 115) = F at *
  obtain ⟨fp, fq⟩ := F
  simp only at f1 f2 fm fs mv
  subst f1
  have iso := twist_iso (c := (L : Int)) h fm.2 f2 fun b hb => tw_zero (hin b (pm.mem_iff.mpr hb)).1 (hd b (pm.mem_iff.mpr hb))
  have a1 := same_ok h fs (by omega) iso
  have hs1 := sheared_ok fm.1 fm.2 (show n ≤ 1000 by omega)
  have hs2 := sheared_ok hp hq (show n ≤ 1000 by omega)
  have i2 := (IsoS.symm ⟨hp, hq⟩ ⟨fm.1, fm.2⟩ iso)
  have i3 := mvP_iso (c := 115) ⟨fm.1, fm.2⟩ ⟨hp, hq⟩ i2
  have sa : Sh fp (shr n fp fq) n := sh_mvP (c := 115) (s := (fp, fq)) fs
  have sb : Sh fp (shr n fp q) n := sh_mvP (c := 115) (s := (fp, q)) h
  have a2 := same_ok sa sb (by omega) i3
  refine fnR_of ?_
  show (seqS _ (seqS _ (seqS _ (seqS _ (seqS _ (seqS (forS (itF itS (callF f_bands_2 (aCons (varF 2) aNil))) (asgn 4) twIn) _)))))) [.v (.list (zD ns)), .u, .u, .u, .u, .u, .u, .u] = _
  rw [seq_go (ρ' := [.v (.list (zD ns)), .v (.int c0), .u, .u, .u, .u, .u, .u]) (by simp [hc0'])]
  rw [seq_go (ρ' := [.v (.list (zD ns)), .v (.int c0), .v (sheet p0 q0), .u, .u, .u, .u, .u]) (by
    generalize c0 / 2 = c at *
    simp [d2, mm, e0'])]
  rw [eB]
  rw [seq_go (ρ' := twEnv (.v (.list (zD ns))) (.v (.int c0)) (.v (sheet fp q)) 1 .u x6 .u) (by unfold twEnv; simp)]
  rw [seq_go (by
    rw [forS_e]
    have : itF itS (callF f_bands_2 (aCons (varF 2) aNil)) (twEnv (.v (.list (zD ns))) (.v (.int c0)) (.v (sheet fp q)) 1 .u x6 .u) = .ok ((bandsS fp q n).map fun b => Rv.v b.D) := by
      unfold twEnv
      simp [b1]
    rw [this]
    exact eT)]
  unfold twEnv
  rw [seq_go (ρ' := [.v (.list (zD ns)), .v (.int c0), .v (sheet fp q), .v (.int L), x4, .v (sheet fp fq), x6, x7]) (by simp [rp', mv])]
  simp [a1, hs1, hs2, a2]
theorem law_true : ∀ ns : List Int, ns.length ≤ 63 → f_law_k65_whole_twists_come_round [.v (.list (ns.map .int))] = .ret (.v (.bool true)) := fun ns _ => law_k65 ns

end Sq
namespace Lw
open PySem PySem.Spec PyProof.Rows L2 Sq
/-! ### the text -/
def topS (i : Nat) : Stmt := PySem.Challenge.pw_squaresheet_k65_whole_twists_come_round.main.body.getD i (.Pass ⟨0, 0, 0, 0⟩)
abbrev s_law_cell_at : Stmt := topS 24
theorem sc_law_cell_at : FnScope ["_law_script", "_law_k"] ["_law_script", "_law_k"] (defScope s_law_cell_at) := ⟨rfl, rfl, rfl, by decide +kernel, rfl, by decide +kernel, by decide +kernel⟩
abbrev s_law_together : Stmt := topS 28
theorem sc_law_together : FnScope ["_law_right", "_law_up", "_law_met", "_law_at", "_law_kept", "_law_square", "_law_k"] ["_law_right", "_law_up"] (defScope s_law_together) := ⟨rfl, rfl, rfl, by decide +kernel, rfl, by decide +kernel, by decide +kernel⟩
abbrev s_law_row_by : Stmt := topS 30
theorem sc_law_row_by : FnScope ["_law_cell", "_law_many", "_law_left", "_law_row_here"] ["_law_cell", "_law_many"] (defScope s_law_row_by) := ⟨rfl, rfl, rfl, by decide +kernel, rfl, by decide +kernel, by decide +kernel⟩
abbrev s_law_sheet_by : Stmt := topS 31
theorem sc_law_sheet_by : FnScope ["_law_script", "_law_many"] ["_law_script", "_law_many"] (defScope s_law_sheet_by) := ⟨rfl, rfl, rfl, by decide +kernel, rfl, by decide +kernel, by decide +kernel⟩
abbrev s_law_row : Stmt := topS 27
theorem sc_law_row : FnScope ["_law_cells", "_law_left", "_law_row_here", "_law_cell"] ["_law_cells"] (defScope s_law_row) := ⟨rfl, rfl, rfl, by decide +kernel, rfl, by decide +kernel, by decide +kernel⟩
abbrev s_law_spread : Stmt := topS 26
theorem sc_law_spread : FnScope ["_law_script", "_law_k", "_law_cell"] ["_law_script", "_law_k"] (defScope s_law_spread) := ⟨rfl, rfl, rfl, by decide +kernel, rfl, by decide +kernel, by decide +kernel⟩
abbrev s_law_sheet : Stmt := topS 29
theorem sc_law_sheet : FnScope ["_law_script", "_law_at", "_law_many", "_law_right", "_law_up", "_law_k"] ["_law_script", "_law_at", "_law_many"] (defScope s_law_sheet) := ⟨rfl, rfl, rfl, by decide +kernel, rfl, by decide +kernel, by decide +kernel⟩
abbrev s_law_rows_alike : Stmt := topS 35
theorem sc_law_rows_alike : FnScope ["_law_script", "_law_many", "_law_size_told", "_law_right", "_law_square", "_law_k"] ["_law_script", "_law_many", "_law_size_told"] (defScope s_law_rows_alike) := ⟨rfl, rfl, rfl, by decide +kernel, rfl, by decide +kernel, by decide +kernel⟩
abbrev s_back_row : Stmt := topS 5
theorem sc_back_row : FnScope ["row", "told", "at", "square"] ["row"] (defScope s_back_row) := ⟨rfl, rfl, rfl, by decide +kernel, rfl, by decide +kernel, by decide +kernel⟩
abbrev s_size : Stmt := topS 4
theorem sc_size : FnScope ["sheet"] ["sheet"] (defScope s_size) := ⟨rfl, rfl, rfl, by decide +kernel, rfl, by decide +kernel, by decide +kernel⟩
abbrev s_turn_row : Stmt := topS 14
theorem sc_turn_row : FnScope ["sheet", "left", "down", "right", "up", "square"] ["sheet"] (defScope s_turn_row) := ⟨rfl, rfl, rfl, by decide +kernel, rfl, by decide +kernel, by decide +kernel⟩
abbrev s_round_by : Stmt := topS 15
theorem sc_round_by : FnScope ["later", "square", "found", "now"] ["later", "square"] (defScope s_round_by) := ⟨rfl, rfl, rfl, by decide +kernel, rfl, by decide +kernel, by decide +kernel⟩
abbrev s_corners : Stmt := topS 16
theorem sc_corners : FnScope ["sheet", "later", "have", "found", "square", "met", "one"] ["sheet"] (defScope s_corners) := ⟨rfl, rfl, rfl, by decide +kernel, rfl, by decide +kernel, by decide +kernel⟩
abbrev s_borders : Stmt := topS 19
theorem sc_borders : FnScope ["sheet", "found", "met"] ["sheet"] (defScope s_borders) := ⟨rfl, rfl, rfl, by decide +kernel, rfl, by decide +kernel, by decide +kernel⟩
abbrev s_rows : Stmt := topS 18
theorem sc_rows : FnScope ["sheet", "right", "have", "found", "first", "row", "square"] ["sheet"] (defScope s_rows) := ⟨rfl, rfl, rfl, by decide +kernel, rfl, by decide +kernel, by decide +kernel⟩
abbrev s_has_one : Stmt := topS 20
theorem sc_has_one : FnScope ["squares", "marks", "square"] ["squares", "marks"] (defScope s_has_one) := ⟨rfl, rfl, rfl, by decide +kernel, rfl, by decide +kernel, by decide +kernel⟩
abbrev s_band_from : Stmt := topS 21
theorem sc_band_from : FnScope ["up", "row", "marks", "length", "width", "top", "above", "starts", "shifts", "t", "square", "k"] ["up", "row", "marks"] (defScope s_band_from) := ⟨rfl, rfl, rfl, by decide +kernel, rfl, by decide +kernel, by decide +kernel⟩
abbrev s_bands : Stmt := topS 22
theorem sc_bands : FnScope ["sheet", "marks", "found", "row"] ["sheet"] (defScope s_bands) := ⟨rfl, rfl, rfl, by decide +kernel, rfl, by decide +kernel, by decide +kernel⟩
abbrev s_law_whole : Stmt := topS 25
theorem sc_law_whole : FnScope ["_law_found"] ["_law_found"] (defScope s_law_whole) := ⟨rfl, rfl, rfl, by decide +kernel, rfl, by decide +kernel, by decide +kernel⟩
abbrev s_law_gcd : Stmt := topS 32
theorem sc_law_gcd : FnScope ["_law_one", "_law_other"] ["_law_one", "_law_other"] (defScope s_law_gcd) := ⟨rfl, rfl, rfl, by decide +kernel, rfl, by decide +kernel, by decide +kernel⟩
abbrev s_check_word : Stmt := topS 8
theorem sc_check_word : FnScope ["word", "letter"] ["word"] (defScope s_check_word) := ⟨rfl, rfl, rfl, by decide +kernel, rfl, by decide +kernel, by decide +kernel⟩
abbrev s_sheared : Stmt := topS 10
theorem sc_sheared : FnScope ["sheet", "left", "right", "up", "square"] ["sheet"] (defScope s_sheared) := ⟨rfl, rfl, rfl, by decide +kernel, rfl, by decide +kernel, by decide +kernel⟩
abbrev s_turned : Stmt := topS 11
theorem sc_turned : FnScope ["sheet", "right", "up"] ["sheet"] (defScope s_turned) := ⟨rfl, rfl, rfl, by decide +kernel, rfl, by decide +kernel, by decide +kernel⟩
abbrev s_moved : Stmt := topS 12
theorem sc_moved : FnScope ["sheet", "word", "letter"] ["sheet", "word"] (defScope s_moved) := ⟨rfl, rfl, rfl, by decide +kernel, rfl, by decide +kernel, by decide +kernel⟩
abbrev s_law_leading : Stmt := topS 33
theorem sc_law_leading : FnScope ["_law_one", "_law_other", "_law_first", "_law_numbers", "_law_met", "_law_at", "_law_here", "_law_row_here", "_law_there", "_law_goal", "_law_square"] ["_law_one", "_law_other", "_law_first"] (defScope s_law_leading) := ⟨rfl, rfl, rfl, by decide +kernel, rfl, by decide +kernel, by decide +kernel⟩
abbrev s_law_same : Stmt := topS 34
theorem sc_law_same : FnScope ["_law_one", "_law_other", "_law_first", "_law_found"] ["_law_one", "_law_other"] (defScope s_law_same) := ⟨rfl, rfl, rfl, by decide +kernel, rfl, by decide +kernel, by decide +kernel⟩
abbrev s_law : Stmt := topS 36
theorem sc_law : FnScope ["_law_script", "_law_cell", "_law_sheet_here", "_law_often", "_law_band", "_law_far", "_law_size_told", "_law_turns_told"] ["_law_script"] (defScope s_law) := ⟨rfl, rfl, rfl, by decide +kernel, rfl, by decide +kernel, by decide +kernel⟩
structure Ad where
  f_law_cell_at : Addr
  d_law_cell_at : FuncData
  f_law_together : Addr
  d_law_together : FuncData
  f_law_row_by : Addr
  d_law_row_by : FuncData
  f_law_sheet_by : Addr
  d_law_sheet_by : FuncData
  f_law_row : Addr
  d_law_row : FuncData
  f_law_spread : Addr
  d_law_spread : FuncData
  f_law_sheet : Addr
  d_law_sheet : FuncData
  f_law_rows_alike : Addr
  d_law_rows_alike : FuncData
  f_back_row : Addr
  d_back_row : FuncData
  f_size : Addr
  d_size : FuncData
  f_turn_row : Addr
  d_turn_row : FuncData
  f_round_by : Addr
  d_round_by : FuncData
  f_corners : Addr
  d_corners : FuncData
  f_borders : Addr
  d_borders : FuncData
  f_rows : Addr
  d_rows : FuncData
  f_has_one : Addr
  d_has_one : FuncData
  f_band_from : Addr
  d_band_from : FuncData
  f_bands : Addr
  d_bands : FuncData
  f_law_whole : Addr
  d_law_whole : FuncData
  f_law_gcd : Addr
  d_law_gcd : FuncData
  f_check_word : Addr
  d_check_word : FuncData
  f_sheared : Addr
  d_sheared : FuncData
  f_turned : Addr
  d_turned : FuncData
  f_moved : Addr
  d_moved : FuncData
  f_law_leading : Addr
  d_law_leading : FuncData
  f_law_same : Addr
  d_law_same : FuncData
  f_law : Addr
  d_law : FuncData
structure Tx (K : PySem.W.Frag) (mg : Str → Option Value) (a : Ad) : Prop where
  F_law_cell_at : Fun K "_law_cell_at" "_law_cell_at" s_law_cell_at a.f_law_cell_at a.d_law_cell_at
  B_law_cell_at : Binds K a.d_law_cell_at ["_law_script", "_law_k"] []
  G_law_cell_at : mg "_law_cell_at" = some (.ref a.f_law_cell_at)
  F_law_together : Fun K "_law_together" "_law_together" s_law_together a.f_law_together a.d_law_together
  B_law_together : Binds K a.d_law_together ["_law_right", "_law_up"] []
  G_law_together : mg "_law_together" = some (.ref a.f_law_together)
  F_law_row_by : Fun K "_law_row_by" "_law_row_by" s_law_row_by a.f_law_row_by a.d_law_row_by
  B_law_row_by : Binds K a.d_law_row_by ["_law_cell", "_law_many"] []
  G_law_row_by : mg "_law_row_by" = some (.ref a.f_law_row_by)
  F_law_sheet_by : Fun K "_law_sheet_by" "_law_sheet_by" s_law_sheet_by a.f_law_sheet_by a.d_law_sheet_by
  B_law_sheet_by : Binds K a.d_law_sheet_by ["_law_script", "_law_many"] []
  G_law_sheet_by : mg "_law_sheet_by" = some (.ref a.f_law_sheet_by)
  F_law_row : Fun K "_law_row" "_law_row" s_law_row a.f_law_row a.d_law_row
  B_law_row : Binds K a.d_law_row ["_law_cells"] []
  G_law_row : mg "_law_row" = some (.ref a.f_law_row)
  F_law_spread : Fun K "_law_spread" "_law_spread" s_law_spread a.f_law_spread a.d_law_spread
  B_law_spread : Binds K a.d_law_spread ["_law_script", "_law_k"] []
  G_law_spread : mg "_law_spread" = some (.ref a.f_law_spread)
  F_law_sheet : Fun K "_law_sheet" "_law_sheet" s_law_sheet a.f_law_sheet a.d_law_sheet
  B_law_sheet : Binds K a.d_law_sheet ["_law_script", "_law_at", "_law_many"] []
  G_law_sheet : mg "_law_sheet" = some (.ref a.f_law_sheet)
  F_law_rows_alike : Fun K "_law_rows_alike" "_law_rows_alike" s_law_rows_alike a.f_law_rows_alike a.d_law_rows_alike
  B_law_rows_alike : Binds K a.d_law_rows_alike ["_law_script", "_law_many", "_law_size_told"] []
  G_law_rows_alike : mg "_law_rows_alike" = some (.ref a.f_law_rows_alike)
  F_back_row : Fun K "back_row" "back_row" s_back_row a.f_back_row a.d_back_row
  B_back_row : Binds K a.d_back_row ["row"] []
  G_back_row : mg "back_row" = some (.ref a.f_back_row)
  F_size : Fun K "size" "size" s_size a.f_size a.d_size
  B_size : Binds K a.d_size ["sheet"] []
  G_size : mg "size" = some (.ref a.f_size)
  F_turn_row : Fun K "turn_row" "turn_row" s_turn_row a.f_turn_row a.d_turn_row
  B_turn_row : Binds K a.d_turn_row ["sheet"] []
  G_turn_row : mg "turn_row" = some (.ref a.f_turn_row)
  F_round_by : Fun K "round_by" "round_by" s_round_by a.f_round_by a.d_round_by
  B_round_by : Binds K a.d_round_by ["later", "square"] []
  G_round_by : mg "round_by" = some (.ref a.f_round_by)
  F_corners : Fun K "corners" "corners" s_corners a.f_corners a.d_corners
  B_corners : Binds K a.d_corners ["sheet"] []
  G_corners : mg "corners" = some (.ref a.f_corners)
  F_borders : Fun K "borders" "borders" s_borders a.f_borders a.d_borders
  B_borders : Binds K a.d_borders ["sheet"] []
  G_borders : mg "borders" = some (.ref a.f_borders)
  F_rows : Fun K "rows" "rows" s_rows a.f_rows a.d_rows
  B_rows : Binds K a.d_rows ["sheet"] []
  G_rows : mg "rows" = some (.ref a.f_rows)
  F_has_one : Fun K "has_one" "has_one" s_has_one a.f_has_one a.d_has_one
  B_has_one : Binds K a.d_has_one ["squares", "marks"] []
  G_has_one : mg "has_one" = some (.ref a.f_has_one)
  F_band_from : Fun K "band_from" "band_from" s_band_from a.f_band_from a.d_band_from
  B_band_from : Binds K a.d_band_from ["up", "row", "marks"] []
  G_band_from : mg "band_from" = some (.ref a.f_band_from)
  F_bands : Fun K "bands" "bands" s_bands a.f_bands a.d_bands
  B_bands : Binds K a.d_bands ["sheet"] []
  G_bands : mg "bands" = some (.ref a.f_bands)
  F_law_whole : Fun K "_law_whole" "_law_whole" s_law_whole a.f_law_whole a.d_law_whole
  B_law_whole : Binds K a.d_law_whole ["_law_found"] []
  G_law_whole : mg "_law_whole" = some (.ref a.f_law_whole)
  F_law_gcd : Fun K "_law_gcd" "_law_gcd" s_law_gcd a.f_law_gcd a.d_law_gcd
  B_law_gcd : Binds K a.d_law_gcd ["_law_one", "_law_other"] []
  G_law_gcd : mg "_law_gcd" = some (.ref a.f_law_gcd)
  F_check_word : Fun K "check_word" "check_word" s_check_word a.f_check_word a.d_check_word
  B_check_word : Binds K a.d_check_word ["word"] []
  G_check_word : mg "check_word" = some (.ref a.f_check_word)
  F_sheared : Fun K "sheared" "sheared" s_sheared a.f_sheared a.d_sheared
  B_sheared : Binds K a.d_sheared ["sheet"] []
  G_sheared : mg "sheared" = some (.ref a.f_sheared)
  F_turned : Fun K "turned" "turned" s_turned a.f_turned a.d_turned
  B_turned : Binds K a.d_turned ["sheet"] []
  G_turned : mg "turned" = some (.ref a.f_turned)
  F_moved : Fun K "moved" "moved" s_moved a.f_moved a.d_moved
  B_moved : Binds K a.d_moved ["sheet", "word"] []
  G_moved : mg "moved" = some (.ref a.f_moved)
  F_law_leading : Fun K "_law_leading" "_law_leading" s_law_leading a.f_law_leading a.d_law_leading
  B_law_leading : Binds K a.d_law_leading ["_law_one", "_law_other", "_law_first"] []
  G_law_leading : mg "_law_leading" = some (.ref a.f_law_leading)
  F_law_same : Fun K "_law_same" "_law_same" s_law_same a.f_law_same a.d_law_same
  B_law_same : Binds K a.d_law_same ["_law_one", "_law_other"] []
  G_law_same : mg "_law_same" = some (.ref a.f_law_same)
  F_law : Fun K "law" "law" s_law a.f_law a.d_law
  z_len : mg "len" = none
  z_sorted : mg "sorted" = none
  z_tuple : mg "tuple" = none
  z_list : mg "list" = none
  z_range : mg "range" = none
  z_enumerate : mg "enumerate" = none
  z_any : mg "any" = none
  z_isinstance : mg "isinstance" = none
  z_int : mg "int" = none
  z_bool : mg "bool" = none
  z_abs : mg "abs" = none
  z_zip : mg "zip" = none
  z_set : mg "set" = none
  gv_MOST_LETTERS : ∃ t, mg "MOST_LETTERS" = some (.int (1000) t)
section
variable {P : Program} {w : World} {K : PySem.W.Frag} {mg : Str → Option Value} {base : Heap} {ad : Ad}
theorem ok_law_cell_at (T : Tx K mg ad) : FnOk P w K mg base (L2.CX P w) 1 ad.f_law_cell_at ad.d_law_cell_at ["_law_script", "_law_k"] (fsp K (cmOf mg) 2 f_law_cell_at) := by
  refine fn_ok T.F_law_cell_at sc_law_cell_at (by decide) fun cdv A outer s H E hr => ?_
  have tk := tkOf (cm := cmOf mg) (X := bodyCx P w K mg base ["_law_script", "_law_k"] "_law_cell_at" s_law_cell_at ad.f_law_cell_at cdv A outer s H E) (takes_of rfl rfl rfl rfl)
  have hpo : PassesOwn (model P w) (bodyCx P w K mg base ["_law_script", "_law_k"] "_law_cell_at" s_law_cell_at ad.f_law_cell_at cdv A outer s H E).A (bodyCx P w K mg base ["_law_script", "_law_k"] "_law_cell_at" s_law_cell_at ad.f_law_cell_at cdv A outer s H E).env (bodyCx P w K mg base ["_law_script", "_law_k"] "_law_cell_at" s_law_cell_at ad.f_law_cell_at cdv A outer s H E).xe := passes_of rfl
  exact (xsscons (xifs (xtlt  (xv 1) (xlen (by rfl) T.z_len (xv 0))) (xssone (xret (xix (hu_of hr) (xv 0) (xv 1))))
  xssnil)
  (xssone (xret xint)))
theorem ok_law_together (T : Tx K mg ad) : FnOk P w K mg base (L2.CX P w) 1 ad.f_law_together ad.d_law_together ["_law_right", "_law_up"] (fsp K (cmOf mg) 2 f_law_together_2) := by
  refine fn_ok T.F_law_together sc_law_together (by decide) fun cdv A outer s H E hr => ?_
  have tk := tkOf (cm := cmOf mg) (X := bodyCx P w K mg base ["_law_right", "_law_up", "_law_met", "_law_at", "_law_kept", "_law_square", "_law_k"] "_law_together" s_law_together ad.f_law_together cdv A outer s H E) (takes_of rfl rfl rfl rfl)
  have hpo : PassesOwn (model P w) (bodyCx P w K mg base ["_law_right", "_law_up", "_law_met", "_law_at", "_law_kept", "_law_square", "_law_k"] "_law_together" s_law_together ad.f_law_together cdv A outer s H E).A (bodyCx P w K mg base ["_law_right", "_law_up", "_law_met", "_law_at", "_law_kept", "_law_square", "_law_k"] "_law_together" s_law_together ad.f_law_together cdv A outer s H E).env (bodyCx P w K mg base ["_law_right", "_law_up", "_law_met", "_law_at", "_law_kept", "_law_square", "_law_k"] "_law_together" s_law_together ad.f_law_together cdv A outer s H E).xe := passes_of rfl
  exact (xsscons (xset (i := 2) sc_law_together.nd (xlst (xacons xint xanil)))
  (xsscons (xset (i := 3) sc_law_together.nd xint)
  (xsscons (xwhile hpo (xtlt  (xv 3) (xlen (by rfl) T.z_len (xv 2))) (xsscons (xfor hpo rfl (xiS (xtup (xacons (xix (hu_of hr) (xv 0) (xix (hu_of hr) (xv 2) (xv 3))) (xacons (xix (hu_of hr) (xv 1) (xix (hu_of hr) (xv 2) (xv 3))) xanil)))) (xgn 5 sc_law_together.nd)
  (xssone (xifs (xtnotin (hu_of hr) (xv 5) (xv 2)) (xssone (xapp 2 (pe_bm PySem.F.plainAttrs_list PySem.F.slot_list_append PySem.F.type_list_append mt_append (pv 2) (pa_cons (xv 5) pa_nil))))
  xssnil)))
  (xssone (xset (i := 3) sc_law_together.nd (xadd (xv 3) xint)))))
  (xsscons (xset (i := 4) sc_law_together.nd (xsorted (by rfl) T.z_sorted (xv 2)))
  (xfrz 4 (xssone (xret (xtup (xacons (xtupleOf (by rfl) T.z_tuple (xlc (own := [("_law_k", 6)]) rfl sc_law_together.nd asgn_ne (xiC (xv 4)) (blkOk_by (own := [("_law_k", 6)]) (N := ["_law_right", "_law_up", "_law_met", "_law_at", "_law_kept", "_law_square", "_law_k"]) (sc := defScope s_law_together) (by decide +kernel)) (fun _ _ _ _ _ => (xgn 6 sc_law_together.nd)) (fun _ _ _ _ _ => xyes) (fun _ _ _ _ _ => (xindex (pe_bm PySem.F.plainAttrs_list PySem.F.slot_list_index PySem.F.type_list_index mt_index (xv 4) (pa_cons (xix (hu_of hr) (xv 0) (xv 6)) pa_nil)))))) (xacons (xtupleOf (by rfl) T.z_tuple (xlc (own := [("_law_k", 6)]) rfl sc_law_together.nd asgn_ne (xiC (xv 4)) (blkOk_by (own := [("_law_k", 6)]) (N := ["_law_right", "_law_up", "_law_met", "_law_at", "_law_kept", "_law_square", "_law_k"]) (sc := defScope s_law_together) (by decide +kernel)) (fun _ _ _ _ _ => (xgn 6 sc_law_together.nd)) (fun _ _ _ _ _ => xyes) (fun _ _ _ _ _ => (xindex (pe_bm PySem.F.plainAttrs_list PySem.F.slot_list_index PySem.F.type_list_index mt_index (xv 4) (pa_cons (xix (hu_of hr) (xv 1) (xv 6)) pa_nil)))))) xanil))))))))))
theorem ok_law_row_by (T : Tx K mg ad) : FnOk P w K mg base (L2.CX P w) 1 ad.f_law_row_by ad.d_law_row_by ["_law_cell", "_law_many"] (fsp K (cmOf mg) 2 f_law_row_by) := by
  refine fn_ok T.F_law_row_by sc_law_row_by (by decide) fun cdv A outer s H E hr => ?_
  have tk := tkOf (cm := cmOf mg) (X := bodyCx P w K mg base ["_law_cell", "_law_many", "_law_left", "_law_row_here"] "_law_row_by" s_law_row_by ad.f_law_row_by cdv A outer s H E) (takes_of rfl rfl rfl rfl)
  have hpo : PassesOwn (model P w) (bodyCx P w K mg base ["_law_cell", "_law_many", "_law_left", "_law_row_here"] "_law_row_by" s_law_row_by ad.f_law_row_by cdv A outer s H E).A (bodyCx P w K mg base ["_law_cell", "_law_many", "_law_left", "_law_row_here"] "_law_row_by" s_law_row_by ad.f_law_row_by cdv A outer s H E).env (bodyCx P w K mg base ["_law_cell", "_law_many", "_law_left", "_law_row_here"] "_law_row_by" s_law_row_by ad.f_law_row_by cdv A outer s H E).xe := passes_of rfl
  exact (xsscons (xset (i := 2) sc_law_row_by.nd (xlrg1 rfl (by rfl) T.z_list (by rfl) T.z_range (xv 1)))
  (xsscons (xset (i := 0) sc_law_row_by.nd (xmod (xv 0) (xpow xint xint)))
  (xsscons (xset (i := 3) sc_law_row_by.nd (xlst xanil))
  (xsscons (xwhile hpo (xtgt  (xlen (by rfl) T.z_len (xv 2)) xint) (xsscons (xappM 3 (pe_bm PySem.F.plainAttrs_list PySem.F.slot_list_append PySem.F.type_list_append mt_append (pv 3) (pa_cons (xpopAt 2 (pe_bm PySem.F.plainAttrs_list PySem.F.slot_list_pop PySem.F.type_list_pop mt_popAt (pv 2) (pa_cons (xmod (xv 0) (xlen (by rfl) T.z_len (xv 2))) pa_nil))) pa_nil)))
  (xssone (xset (i := 0) sc_law_row_by.nd (xdiv (xv 0) (xadd (xlen (by rfl) T.z_len (xv 2)) xint))))))
  (xssone (xretv 3))))))
theorem ok_law_sheet_by (T : Tx K mg ad) : FnOk P w K mg base (L2.CX P w) 2 ad.f_law_sheet_by ad.d_law_sheet_by ["_law_script", "_law_many"] (fsp K (cmOf mg) 2 f_law_sheet_by_3) := by
  refine fn_ok T.F_law_sheet_by sc_law_sheet_by (by decide) fun cdv A outer s H E hr => ?_
  have tk := tkOf (cm := cmOf mg) (X := bodyCx P w K mg base ["_law_script", "_law_many"] "_law_sheet_by" s_law_sheet_by ad.f_law_sheet_by cdv A outer s H E) (takes_of rfl rfl rfl rfl)
  have hpo : PassesOwn (model P w) (bodyCx P w K mg base ["_law_script", "_law_many"] "_law_sheet_by" s_law_sheet_by ad.f_law_sheet_by cdv A outer s H E).A (bodyCx P w K mg base ["_law_script", "_law_many"] "_law_sheet_by" s_law_sheet_by ad.f_law_sheet_by cdv A outer s H E).env (bodyCx P w K mg base ["_law_script", "_law_many"] "_law_sheet_by" s_law_sheet_by ad.f_law_sheet_by cdv A outer s H E).xe := passes_of rfl
  exact (xssone (xret (xcall tk (ok_law_together T) (hr.mono (by decide)) (by rfl) T.G_law_together T.F_law_together.kp T.B_law_together rfl (xacons (xcall tk (ok_law_row_by T) (hr.mono (by decide)) (by rfl) T.G_law_row_by T.F_law_row_by.kp T.B_law_row_by rfl (xacons (xcall tk (ok_law_cell_at T) (hr.mono (by decide)) (by rfl) T.G_law_cell_at T.F_law_cell_at.kp T.B_law_cell_at rfl (xacons (xv 0) (xacons xint xanil)) (al_cons (al_cons al_nil))) (xacons (xv 1) xanil)) (al_cons (al_cons al_nil))) (xacons (xcall tk (ok_law_row_by T) (hr.mono (by decide)) (by rfl) T.G_law_row_by T.F_law_row_by.kp T.B_law_row_by rfl (xacons (xcall tk (ok_law_cell_at T) (hr.mono (by decide)) (by rfl) T.G_law_cell_at T.F_law_cell_at.kp T.B_law_cell_at rfl (xacons (xv 0) (xacons xint xanil)) (al_cons (al_cons al_nil))) (xacons (xv 1) xanil)) (al_cons (al_cons al_nil))) xanil)) (al_cons (al_cons al_nil)))))
theorem ok_law_row (T : Tx K mg ad) : FnOk P w K mg base (L2.CX P w) 1 ad.f_law_row ad.d_law_row ["_law_cells"] (fsp K (cmOf mg) 1 f_law_row_2) := by
  refine fn_ok T.F_law_row sc_law_row (by decide) fun cdv A outer s H E hr => ?_
  have tk := tkOf (cm := cmOf mg) (X := bodyCx P w K mg base ["_law_cells", "_law_left", "_law_row_here", "_law_cell"] "_law_row" s_law_row ad.f_law_row cdv A outer s H E) (takes_of rfl rfl rfl rfl)
  have hpo : PassesOwn (model P w) (bodyCx P w K mg base ["_law_cells", "_law_left", "_law_row_here", "_law_cell"] "_law_row" s_law_row ad.f_law_row cdv A outer s H E).A (bodyCx P w K mg base ["_law_cells", "_law_left", "_law_row_here", "_law_cell"] "_law_row" s_law_row ad.f_law_row cdv A outer s H E).env (bodyCx P w K mg base ["_law_cells", "_law_left", "_law_row_here", "_law_cell"] "_law_row" s_law_row ad.f_law_row cdv A outer s H E).xe := passes_of rfl
  exact (xsscons (xset (i := 1) sc_law_row.nd (xlrg1 rfl (by rfl) T.z_list (by rfl) T.z_range (xlen (by rfl) T.z_len (xv 0))))
  (xsscons (xset (i := 2) sc_law_row.nd (xlst xanil))
  (xsscons (xfor hpo rfl (xiS (xv 0)) (xgn 3 sc_law_row.nd)
  (xssone (xappM 2 (pe_bm PySem.F.plainAttrs_list PySem.F.slot_list_append PySem.F.type_list_append mt_append (pv 2) (pa_cons (xpopAt 1 (pe_bm PySem.F.plainAttrs_list PySem.F.slot_list_pop PySem.F.type_list_pop mt_popAt (pv 1) (pa_cons (xmod (xv 3) (xlen (by rfl) T.z_len (xv 1))) pa_nil))) pa_nil)))))
  (xssone (xretv 2)))))
theorem ok_law_spread (T : Tx K mg ad) : FnOk P w K mg base (L2.CX P w) 1 ad.f_law_spread ad.d_law_spread ["_law_script", "_law_k"] (fsp K (cmOf mg) 2 f_law_spread) := by
  refine fn_ok T.F_law_spread sc_law_spread (by decide) fun cdv A outer s H E hr => ?_
  have tk := tkOf (cm := cmOf mg) (X := bodyCx P w K mg base ["_law_script", "_law_k", "_law_cell"] "_law_spread" s_law_spread ad.f_law_spread cdv A outer s H E) (takes_of rfl rfl rfl rfl)
  have hpo : PassesOwn (model P w) (bodyCx P w K mg base ["_law_script", "_law_k", "_law_cell"] "_law_spread" s_law_spread ad.f_law_spread cdv A outer s H E).A (bodyCx P w K mg base ["_law_script", "_law_k", "_law_cell"] "_law_spread" s_law_spread ad.f_law_spread cdv A outer s H E).env (bodyCx P w K mg base ["_law_script", "_law_k", "_law_cell"] "_law_spread" s_law_spread ad.f_law_spread cdv A outer s H E).xe := passes_of rfl
  exact (xsscons (xifs (xtlt  (xv 1) (xlen (by rfl) T.z_len (xv 0))) (xssone (xret (xix (hu_of hr) (xv 0) (xv 1))))
  xssnil)
  (xsscons (xset (i := 2) sc_law_spread.nd (xadd (xmul (xv 1) (xv 1)) xint))
  (xsscons (xifs (xtgt  (xlen (by rfl) T.z_len (xv 0)) xint) (xssone (xset (i := 2) sc_law_spread.nd (xadd (xadd (xmul (xix (hu_of hr) (xv 0) (xmod (xv 1) (xlen (by rfl) T.z_len (xv 0)))) xint) (xmul (xmul (xv 1) (xv 1)) xint)) xint)))
  xssnil)
  (xfrz 2 (xssone (xret (xdiv (xmod (xv 2) xint) xint)))))))
theorem ok_law_sheet (T : Tx K mg ad) : FnOk P w K mg base (L2.CX P w) 2 ad.f_law_sheet ad.d_law_sheet ["_law_script", "_law_at", "_law_many"] (fsp K (cmOf mg) 3 f_law_sheet_2) := by
  refine fn_ok T.F_law_sheet sc_law_sheet (by decide) fun cdv A outer s H E hr => ?_
  have tk := tkOf (cm := cmOf mg) (X := bodyCx P w K mg base ["_law_script", "_law_at", "_law_many", "_law_right", "_law_up", "_law_k"] "_law_sheet" s_law_sheet ad.f_law_sheet cdv A outer s H E) (takes_of rfl rfl rfl rfl)
  have hpo : PassesOwn (model P w) (bodyCx P w K mg base ["_law_script", "_law_at", "_law_many", "_law_right", "_law_up", "_law_k"] "_law_sheet" s_law_sheet ad.f_law_sheet cdv A outer s H E).A (bodyCx P w K mg base ["_law_script", "_law_at", "_law_many", "_law_right", "_law_up", "_law_k"] "_law_sheet" s_law_sheet ad.f_law_sheet cdv A outer s H E).env (bodyCx P w K mg base ["_law_script", "_law_at", "_law_many", "_law_right", "_law_up", "_law_k"] "_law_sheet" s_law_sheet ad.f_law_sheet cdv A outer s H E).xe := passes_of rfl
  exact (xsscons (xset (i := 3) sc_law_sheet.nd (xcall tk (ok_law_row T) (hr.mono (by decide)) (by rfl) T.G_law_row T.F_law_row.kp T.B_law_row rfl (xacons (xlc (own := [("_law_k", 5)]) rfl sc_law_sheet.nd asgn_ne (xrg1 (by rfl) T.z_range (xv 2)) (blkOk_by (own := [("_law_k", 5)]) (N := ["_law_script", "_law_at", "_law_many", "_law_right", "_law_up", "_law_k"]) (sc := defScope s_law_sheet) (by decide +kernel)) (fun _ _ _ _ _ => (xgn 5 sc_law_sheet.nd)) (fun _ _ _ _ _ => xyes) (fun _ _ _ _ _ => (xcall tkN (ok_law_spread T) (hr.mono (by decide)) (by rfl) T.G_law_spread T.F_law_spread.kp T.B_law_spread rfl (xacons (xv 0) (xacons (xadd (xv 1) (xv 5)) xanil)) (al_cons (al_cons al_nil))))) xanil) (al_cons al_nil)))
  (xsscons (xset (i := 4) sc_law_sheet.nd (xcall tk (ok_law_row T) (hr.mono (by decide)) (by rfl) T.G_law_row T.F_law_row.kp T.B_law_row rfl (xacons (xlc (own := [("_law_k", 5)]) rfl sc_law_sheet.nd asgn_ne (xrg1 (by rfl) T.z_range (xv 2)) (blkOk_by (own := [("_law_k", 5)]) (N := ["_law_script", "_law_at", "_law_many", "_law_right", "_law_up", "_law_k"]) (sc := defScope s_law_sheet) (by decide +kernel)) (fun _ _ _ _ _ => (xgn 5 sc_law_sheet.nd)) (fun _ _ _ _ _ => xyes) (fun _ _ _ _ _ => (xcall tkN (ok_law_spread T) (hr.mono (by decide)) (by rfl) T.G_law_spread T.F_law_spread.kp T.B_law_spread rfl (xacons (xv 0) (xacons (xadd (xadd (xv 1) (xv 2)) (xv 5)) xanil)) (al_cons (al_cons al_nil))))) xanil) (al_cons al_nil)))
  (xfrz 4 (xfrz 3 (xssone (xret (xcall tk (ok_law_together T) (hr.mono (by decide)) (by rfl) T.G_law_together T.F_law_together.kp T.B_law_together rfl (xacons (xv 3) (xacons (xv 4) xanil)) (al_cons (al_cons al_nil)))))))))
theorem ok_law_rows_alike (T : Tx K mg ad) : FnOk P w K mg base (L2.CX P w) 2 ad.f_law_rows_alike ad.d_law_rows_alike ["_law_script", "_law_many", "_law_size_told"] (fsp K (cmOf mg) 3 f_law_rows_alike) := by
  refine fn_ok T.F_law_rows_alike sc_law_rows_alike (by decide) fun cdv A outer s H E hr => ?_
  have tk := tkOf (cm := cmOf mg) (X := bodyCx P w K mg base ["_law_script", "_law_many", "_law_size_told", "_law_right", "_law_square", "_law_k"] "_law_rows_alike" s_law_rows_alike ad.f_law_rows_alike cdv A outer s H E) (takes_of rfl rfl rfl rfl)
  have hpo : PassesOwn (model P w) (bodyCx P w K mg base ["_law_script", "_law_many", "_law_size_told", "_law_right", "_law_square", "_law_k"] "_law_rows_alike" s_law_rows_alike ad.f_law_rows_alike cdv A outer s H E).A (bodyCx P w K mg base ["_law_script", "_law_many", "_law_size_told", "_law_right", "_law_square", "_law_k"] "_law_rows_alike" s_law_rows_alike ad.f_law_rows_alike cdv A outer s H E).env (bodyCx P w K mg base ["_law_script", "_law_many", "_law_size_told", "_law_right", "_law_square", "_law_k"] "_law_rows_alike" s_law_rows_alike ad.f_law_rows_alike cdv A outer s H E).xe := passes_of rfl
  exact (xsscons (xsetLc (own := [("_law_square", 4)]) (i := 3) rfl sc_law_rows_alike.nd asgn_ne (xrg1 (by rfl) T.z_range (xv 1)) (blkOk_by (own := [("_law_square", 4)]) (N := ["_law_script", "_law_many", "_law_size_told", "_law_right", "_law_square", "_law_k"]) (sc := defScope s_law_rows_alike) (by decide +kernel)) (fun _ _ _ _ _ => (xgn 4 sc_law_rows_alike.nd)) (fun _ _ _ _ _ => xyes) (fun _ _ _ _ _ => (xadd (xsub (xv 4) (xmod (xv 4) (xv 2))) (xmod (xadd (xv 4) xint) (xv 2)))) (sw_true rfl rfl rfl (by decide +kernel)))
  (xfrz 3 (xssone (xret (xcall tk (ok_law_together T) (hr.mono (by decide)) (by rfl) T.G_law_together T.F_law_together.kp T.B_law_together rfl (xacons (xv 3) (xacons (xcall tk (ok_law_row T) (hr.mono (by decide)) (by rfl) T.G_law_row T.F_law_row.kp T.B_law_row rfl (xacons (xlc (own := [("_law_k", 5)]) rfl sc_law_rows_alike.nd asgn_ne (xrg1 (by rfl) T.z_range (xv 1)) (blkOk_by (own := [("_law_k", 5)]) (N := ["_law_script", "_law_many", "_law_size_told", "_law_right", "_law_square", "_law_k"]) (sc := defScope s_law_rows_alike) (by decide +kernel)) (fun _ _ _ _ _ => (xgn 5 sc_law_rows_alike.nd)) (fun _ _ _ _ _ => xyes) (fun _ _ _ _ _ => (xcall tkN (ok_law_spread T) (hr.mono (by decide)) (by rfl) T.G_law_spread T.F_law_spread.kp T.B_law_spread rfl (xacons (xv 0) (xacons (xadd xint (xv 5)) xanil)) (al_cons (al_cons al_nil))))) xanil) (al_cons al_nil)) xanil)) (al_cons (al_cons al_nil)))))))
theorem ok_back_row (T : Tx K mg ad) : FnOk P w K mg base (L2.CX P w) 1 ad.f_back_row ad.d_back_row ["row"] (fsp K (cmOf mg) 1 f_back_row) := by
  refine fn_ok T.F_back_row sc_back_row (by decide) fun cdv A outer s H E hr => ?_
  have tk := tkOf (cm := cmOf mg) (X := bodyCx P w K mg base ["row", "told", "at", "square"] "back_row" s_back_row ad.f_back_row cdv A outer s H E) (takes_of rfl rfl rfl rfl)
  have hpo : PassesOwn (model P w) (bodyCx P w K mg base ["row", "told", "at", "square"] "back_row" s_back_row ad.f_back_row cdv A outer s H E).A (bodyCx P w K mg base ["row", "told", "at", "square"] "back_row" s_back_row ad.f_back_row cdv A outer s H E).env (bodyCx P w K mg base ["row", "told", "at", "square"] "back_row" s_back_row ad.f_back_row cdv A outer s H E).xe := passes_of rfl
  exact (xsscons (xsetLc (own := [("square", 3)]) (i := 1) rfl sc_back_row.nd asgn_ne (xiC (xv 0)) (blkOk_by (own := [("square", 3)]) (N := ["row", "told", "at", "square"]) (sc := defScope s_back_row) (by decide +kernel)) (fun _ _ _ _ _ => (xgn 3 sc_back_row.nd)) (fun _ _ _ _ _ => xyes) (fun _ _ _ _ _ => xint) (sw_true rfl rfl rfl (by decide +kernel)))
  (xsscons (xfor hpo rfl (xenS (by rfl) T.z_enumerate (xv 0)) (xgtup rfl (xgcons (xgn 2 sc_back_row.nd) (xgcons (xgn 3 sc_back_row.nd) xgnil)))
  (xssone (xsetIt 1 (hu_of hr) (xv 2) (xv 3) (pv 1))))
  (xfrz 1 (xssone (xret (xtupleOf (by rfl) T.z_tuple (xv 1)))))))
theorem ok_size (T : Tx K mg ad) : FnOk P w K mg base (L2.CX P w) 1 ad.f_size ad.d_size ["sheet"] (fsp K (cmOf mg) 1 f_size) := by
  refine fn_ok T.F_size sc_size (by decide) fun cdv A outer s H E hr => ?_
  have tk := tkOf (cm := cmOf mg) (X := bodyCx P w K mg base ["sheet"] "size" s_size ad.f_size cdv A outer s H E) (takes_of rfl rfl rfl rfl)
  have hpo : PassesOwn (model P w) (bodyCx P w K mg base ["sheet"] "size" s_size ad.f_size cdv A outer s H E).A (bodyCx P w K mg base ["sheet"] "size" s_size ad.f_size cdv A outer s H E).env (bodyCx P w K mg base ["sheet"] "size" s_size ad.f_size cdv A outer s H E).xe := passes_of rfl
  exact (xssone (xret (xlen (by rfl) T.z_len (xix (hu_of hr) (xv 0) xint))))
theorem ok_turn_row (T : Tx K mg ad) : FnOk P w K mg base (L2.CX P w) 2 ad.f_turn_row ad.d_turn_row ["sheet"] (fsp K (cmOf mg) 1 f_turn_row) := by
  refine fn_ok T.F_turn_row sc_turn_row (by decide) fun cdv A outer s H E hr => ?_
  have tk := tkOf (cm := cmOf mg) (X := bodyCx P w K mg base ["sheet", "left", "down", "right", "up", "square"] "turn_row" s_turn_row ad.f_turn_row cdv A outer s H E) (takes_of rfl rfl rfl rfl)
  have hpo : PassesOwn (model P w) (bodyCx P w K mg base ["sheet", "left", "down", "right", "up", "square"] "turn_row" s_turn_row ad.f_turn_row cdv A outer s H E).A (bodyCx P w K mg base ["sheet", "left", "down", "right", "up", "square"] "turn_row" s_turn_row ad.f_turn_row cdv A outer s H E).env (bodyCx P w K mg base ["sheet", "left", "down", "right", "up", "square"] "turn_row" s_turn_row ad.f_turn_row cdv A outer s H E).xe := passes_of rfl
  exact (xsscons (xasg (unpT_ne (by simp only [List.forall_mem_cons]; exact ⟨asgn_ne, asgn_ne, by simp⟩)) (xv 0) (xgtup rfl (xgcons (xgn 3 sc_turn_row.nd) (xgcons (xgn 4 sc_turn_row.nd) xgnil))))
  (xsscons (xset (i := 1) sc_turn_row.nd (xcall tk (ok_back_row T) (hr.mono (by decide)) (by rfl) T.G_back_row T.F_back_row.kp T.B_back_row rfl (xacons (xv 3) xanil) (al_cons al_nil)))
  (xsscons (xset (i := 2) sc_turn_row.nd (xcall tk (ok_back_row T) (hr.mono (by decide)) (by rfl) T.G_back_row T.F_back_row.kp T.B_back_row rfl (xacons (xv 4) xanil) (al_cons al_nil)))
  (xfrz 1 (xfrz 2 (xssone (xret (xlc (own := [("square", 5)]) rfl sc_turn_row.nd asgn_ne (xrg1 (by rfl) T.z_range (xcall tk (ok_size T) (hr.mono (by decide)) (by rfl) T.G_size T.F_size.kp T.B_size rfl (xacons (xv 0) xanil) (al_cons al_nil))) (blkOk_by (own := [("square", 5)]) (N := ["sheet", "left", "down", "right", "up", "square"]) (sc := defScope s_turn_row) (by decide +kernel)) (fun _ _ _ _ _ => (xgn 5 sc_turn_row.nd)) (fun _ _ _ _ _ => xyes) (fun _ _ _ _ _ => (xix (hu_of hr) (xv 4) (xix (hu_of hr) (xv 3) (xix (hu_of hr) (xv 2) (xix (hu_of hr) (xv 1) (xv 5))))))))))))))
theorem ok_round_by (T : Tx K mg ad) : FnOk P w K mg base (L2.CX P w) 1 ad.f_round_by ad.d_round_by ["later", "square"] (fsp K (cmOf mg) 2 f_round_by) := by
  refine fn_ok T.F_round_by sc_round_by (by decide) fun cdv A outer s H E hr => ?_
  have tk := tkOf (cm := cmOf mg) (X := bodyCx P w K mg base ["later", "square", "found", "now"] "round_by" s_round_by ad.f_round_by cdv A outer s H E) (takes_of rfl rfl rfl rfl)
  have hpo : PassesOwn (model P w) (bodyCx P w K mg base ["later", "square", "found", "now"] "round_by" s_round_by ad.f_round_by cdv A outer s H E).A (bodyCx P w K mg base ["later", "square", "found", "now"] "round_by" s_round_by ad.f_round_by cdv A outer s H E).env (bodyCx P w K mg base ["later", "square", "found", "now"] "round_by" s_round_by ad.f_round_by cdv A outer s H E).xe := passes_of rfl
  exact (xsscons (xset (i := 2) sc_round_by.nd (xlst (xacons (xv 1) xanil)))
  (xsscons (xset (i := 3) sc_round_by.nd (xix (hu_of hr) (xv 0) (xv 1)))
  (xsscons (xwhile hpo (xtne hr.units (xv 3) (xv 1)) (xfrz 3 (xsscons (xapp 2 (pe_bm PySem.F.plainAttrs_list PySem.F.slot_list_append PySem.F.type_list_append mt_append (pv 2) (pa_cons (xv 3) pa_nil)))
  (xssone (xset (i := 3) sc_round_by.nd (xix (hu_of hr) (xv 0) (xv 3)))))))
  (xssone (xretv 2)))))
theorem ok_corners (T : Tx K mg ad) : FnOk P w K mg base (L2.CX P w) 3 ad.f_corners ad.d_corners ["sheet"] (fsp K (cmOf mg) 1 f_corners) := by
  refine fn_ok T.F_corners sc_corners (by decide) fun cdv A outer s H E hr => ?_
  have tk := tkOf (cm := cmOf mg) (X := bodyCx P w K mg base ["sheet", "later", "have", "found", "square", "met", "one"] "corners" s_corners ad.f_corners cdv A outer s H E) (takes_of rfl rfl rfl rfl)
  have hpo : PassesOwn (model P w) (bodyCx P w K mg base ["sheet", "later", "have", "found", "square", "met", "one"] "corners" s_corners ad.f_corners cdv A outer s H E).A (bodyCx P w K mg base ["sheet", "later", "have", "found", "square", "met", "one"] "corners" s_corners ad.f_corners cdv A outer s H E).env (bodyCx P w K mg base ["sheet", "later", "have", "found", "square", "met", "one"] "corners" s_corners ad.f_corners cdv A outer s H E).xe := passes_of rfl
  exact (xsscons (xset (i := 1) sc_corners.nd (xcall tk (ok_turn_row T) (hr.mono (by decide)) (by rfl) T.G_turn_row T.F_turn_row.kp T.B_turn_row rfl (xacons (xv 0) xanil) (al_cons al_nil)))
  (xsscons (xset (i := 2) sc_corners.nd xdnew)
  (xsscons (xset (i := 3) sc_corners.nd (xlst xanil))
  (xsscons (xfor hpo rfl (xrg1 (by rfl) T.z_range (xcall tk (ok_size T) (hr.mono (by decide)) (by rfl) T.G_size T.F_size.kp T.B_size rfl (xacons (xv 0) xanil) (al_cons al_nil))) (xgn 4 sc_corners.nd)
  (xssone (xifs (xtnotin (hu_of hr) (xv 4) (xv 2)) (xsscons (xset (i := 5) sc_corners.nd (xcall tk (ok_round_by T) (hr.mono (by decide)) (by rfl) T.G_round_by T.F_round_by.kp T.B_round_by rfl (xacons (xv 1) (xacons (xv 4) xanil)) (al_cons (al_cons al_nil))))
  (xfrz 5 (xsscons (xfor hpo rfl (xiS (xv 5)) (xgn 6 sc_corners.nd)
  (xssone (xsetIt 2 (hu_of hr) xbl (xv 6) (pv 2))))
  (xfrz 5 (xssone (xapp 3 (pe_bm PySem.F.plainAttrs_list PySem.F.slot_list_append PySem.F.type_list_append mt_append (pv 3) (pa_cons (xv 5) pa_nil))))))))
  xssnil)))
  (xssone (xretv 3))))))
theorem ok_borders (T : Tx K mg ad) : FnOk P w K mg base (L2.CX P w) 4 ad.f_borders ad.d_borders ["sheet"] (fsp K (cmOf mg) 1 f_borders) := by
  refine fn_ok T.F_borders sc_borders (by decide) fun cdv A outer s H E hr => ?_
  have tk := tkOf (cm := cmOf mg) (X := bodyCx P w K mg base ["sheet", "found", "met"] "borders" s_borders ad.f_borders cdv A outer s H E) (takes_of rfl rfl rfl rfl)
  have hpo : PassesOwn (model P w) (bodyCx P w K mg base ["sheet", "found", "met"] "borders" s_borders ad.f_borders cdv A outer s H E).A (bodyCx P w K mg base ["sheet", "found", "met"] "borders" s_borders ad.f_borders cdv A outer s H E).env (bodyCx P w K mg base ["sheet", "found", "met"] "borders" s_borders ad.f_borders cdv A outer s H E).xe := passes_of rfl
  exact (xsscons (xset (i := 1) sc_borders.nd (xlst xanil))
  (xsscons (xfor hpo rfl (xiS (xcall tk (ok_corners T) (hr.mono (by decide)) (by rfl) T.G_corners T.F_corners.kp T.B_corners rfl (xacons (xv 0) xanil) (al_cons al_nil))) (xgn 2 sc_borders.nd)
  (xssone (xifs (xtgt  (xlen (by rfl) T.z_len (xv 2)) xint) (xssone (xext 1 (pe_bm PySem.F.plainAttrs_list PySem.F.slot_list_extend PySem.F.type_list_extend mt_extA (pv 1) (pa_cons (xv 2) pa_nil))))
  xssnil)))
  (xsscons (xifs (xteq hr.units (xlen (by rfl) T.z_len (xv 1)) xint) (xssone (xret (xlst (xacons xint xanil))))
  xssnil)
  (xfrz 1 (xssone (xret (xsorted (by rfl) T.z_sorted (xv 1))))))))
theorem ok_rows (T : Tx K mg ad) : FnOk P w K mg base (L2.CX P w) 2 ad.f_rows ad.d_rows ["sheet"] (fsp K (cmOf mg) 1 f_rows) := by
  refine fn_ok T.F_rows sc_rows (by decide) fun cdv A outer s H E hr => ?_
  have tk := tkOf (cm := cmOf mg) (X := bodyCx P w K mg base ["sheet", "right", "have", "found", "first", "row", "square"] "rows" s_rows ad.f_rows cdv A outer s H E) (takes_of rfl rfl rfl rfl)
  have hpo : PassesOwn (model P w) (bodyCx P w K mg base ["sheet", "right", "have", "found", "first", "row", "square"] "rows" s_rows ad.f_rows cdv A outer s H E).A (bodyCx P w K mg base ["sheet", "right", "have", "found", "first", "row", "square"] "rows" s_rows ad.f_rows cdv A outer s H E).env (bodyCx P w K mg base ["sheet", "right", "have", "found", "first", "row", "square"] "rows" s_rows ad.f_rows cdv A outer s H E).xe := passes_of rfl
  exact (xsscons (xset (i := 1) sc_rows.nd (xix (hu_of hr) (xv 0) xint))
  (xsscons (xset (i := 2) sc_rows.nd xdnew)
  (xsscons (xset (i := 3) sc_rows.nd (xlst xanil))
  (xsscons (xfor hpo rfl (xrg1 (by rfl) T.z_range (xcall tk (ok_size T) (hr.mono (by decide)) (by rfl) T.G_size T.F_size.kp T.B_size rfl (xacons (xv 0) xanil) (al_cons al_nil))) (xgn 4 sc_rows.nd)
  (xssone (xifs (xtnotin (hu_of hr) (xv 4) (xv 2)) (xsscons (xset (i := 5) sc_rows.nd (xlst (xacons (xv 4) xanil)))
  (xsscons (xwhile hpo (xtne hr.units (xix (hu_of hr) (xv 1) (xix (hu_of hr) (xv 5) (xneg xint))) (xv 4)) (xssone (xapp 5 (pe_bm PySem.F.plainAttrs_list PySem.F.slot_list_append PySem.F.type_list_append mt_append (pv 5) (pa_cons (xix (hu_of hr) (xv 1) (xix (hu_of hr) (xv 5) (xneg xint))) pa_nil)))))
  (xfrz 5 (xsscons (xfor hpo rfl (xiS (xv 5)) (xgn 6 sc_rows.nd)
  (xssone (xsetIt 2 (hu_of hr) xbl (xv 6) (pv 2))))
  (xfrz 5 (xssone (xapp 3 (pe_bm PySem.F.plainAttrs_list PySem.F.slot_list_append PySem.F.type_list_append mt_append (pv 3) (pa_cons (xv 5) pa_nil)))))))))
  xssnil)))
  (xssone (xretv 3))))))
theorem ok_has_one (T : Tx K mg ad) : FnOk P w K mg base (L2.CX P w) 1 ad.f_has_one ad.d_has_one ["squares", "marks"] (fsp K (cmOf mg) 2 f_has_one) := by
  refine fn_ok T.F_has_one sc_has_one (by decide) fun cdv A outer s H E hr => ?_
  have tk := tkOf (cm := cmOf mg) (X := bodyCx P w K mg base ["squares", "marks", "square"] "has_one" s_has_one ad.f_has_one cdv A outer s H E) (takes_of rfl rfl rfl rfl)
  have hpo : PassesOwn (model P w) (bodyCx P w K mg base ["squares", "marks", "square"] "has_one" s_has_one ad.f_has_one cdv A outer s H E).A (bodyCx P w K mg base ["squares", "marks", "square"] "has_one" s_has_one ad.f_has_one cdv A outer s H E).env (bodyCx P w K mg base ["squares", "marks", "square"] "has_one" s_has_one ad.f_has_one cdv A outer s H E).xe := passes_of rfl
  exact (xssone (xret (xany rfl (by rfl) T.z_any (xlc (own := [("square", 2)]) rfl sc_has_one.nd asgn_ne (xiC (xv 0)) (blkOk_by (own := [("square", 2)]) (N := ["squares", "marks", "square"]) (sc := defScope s_has_one) (by decide +kernel)) (fun _ _ _ _ _ => (xgn 2 sc_has_one.nd)) (fun _ _ _ _ _ => xyes) (fun _ _ _ _ _ => (xin (hu_of hr) (xv 2) (xv 1)))))))
theorem ok_band_from (T : Tx K mg ad) : FnOk P w K mg base (L2.CX P w) 2 ad.f_band_from ad.d_band_from ["up", "row", "marks"] (fsp K (cmOf mg) 3 f_band_from_2) := by
  refine fn_ok T.F_band_from sc_band_from (by decide) fun cdv A outer s H E hr => ?_
  have tk := tkOf (cm := cmOf mg) (X := bodyCx P w K mg base ["up", "row", "marks", "length", "width", "top", "above", "starts", "shifts", "t", "square", "k"] "band_from" s_band_from ad.f_band_from cdv A outer s H E) (takes_of rfl rfl rfl rfl)
  have hpo : PassesOwn (model P w) (bodyCx P w K mg base ["up", "row", "marks", "length", "width", "top", "above", "starts", "shifts", "t", "square", "k"] "band_from" s_band_from ad.f_band_from cdv A outer s H E).A (bodyCx P w K mg base ["up", "row", "marks", "length", "width", "top", "above", "starts", "shifts", "t", "square", "k"] "band_from" s_band_from ad.f_band_from cdv A outer s H E).env (bodyCx P w K mg base ["up", "row", "marks", "length", "width", "top", "above", "starts", "shifts", "t", "square", "k"] "band_from" s_band_from ad.f_band_from cdv A outer s H E).xe := passes_of rfl
  exact (xsscons (xset (i := 3) sc_band_from.nd (xlen (by rfl) T.z_len (xv 1)))
  (xsscons (xset (i := 4) sc_band_from.nd xint)
  (xsscons (xset (i := 5) sc_band_from.nd (xv 1))
  (xsscons (xset (i := 6) sc_band_from.nd (xlc (own := [("square", 10)]) rfl sc_band_from.nd asgn_ne (xiC (xv 5)) (blkOk_by (own := [("square", 10)]) (N := ["up", "row", "marks", "length", "width", "top", "above", "starts", "shifts", "t", "square", "k"]) (sc := defScope s_band_from) (by decide +kernel)) (fun _ _ _ _ _ => (xgn 10 sc_band_from.nd)) (fun _ _ _ _ _ => xyes) (fun _ _ _ _ _ => (xix (hu_of hr) (xv 0) (xv 10)))))
  (xsscons (xwhile hpo (xtnot (xtval (xcall tk (ok_has_one T) (hr.mono (by decide)) (by rfl) T.G_has_one T.F_has_one.kp T.B_has_one rfl (xacons (xv 6) (xacons (xv 2) xanil)) (al_cons (al_cons al_nil))))) (xsscons (xset (i := 4) sc_band_from.nd (xadd (xv 4) xint))
  (xfrz 6 (xsscons (xset (i := 5) sc_band_from.nd (xv 6))
  (xssone (xset (i := 6) sc_band_from.nd (xlc (own := [("square", 10)]) rfl sc_band_from.nd asgn_ne (xiC (xv 5)) (blkOk_by (own := [("square", 10)]) (N := ["up", "row", "marks", "length", "width", "top", "above", "starts", "shifts", "t", "square", "k"]) (sc := defScope s_band_from) (by decide +kernel)) (fun _ _ _ _ _ => (xgn 10 sc_band_from.nd)) (fun _ _ _ _ _ => xyes) (fun _ _ _ _ _ => (xix (hu_of hr) (xv 0) (xv 10))))))))))
  (xsscons (xsetLc (own := [("k", 11)]) (i := 7) rfl sc_band_from.nd asgn_ne (xrg1 (by rfl) T.z_range (xv 3)) (blkOk_by (own := [("k", 11)]) (N := ["up", "row", "marks", "length", "width", "top", "above", "starts", "shifts", "t", "square", "k"]) (sc := defScope s_band_from) (by decide +kernel)) (fun _ _ _ _ _ => (xgn 11 sc_band_from.nd)) (fun _ _ _ _ _ => (pts_one (xtin (hu_of hr) (xix (hu_of hr) (xv 1) (xv 11)) (xv 2)))) (fun _ _ _ _ _ => (xv 11)) (sw_true rfl rfl rfl (by decide +kernel)))
  (xsscons (xset (i := 8) sc_band_from.nd (xlst xanil))
  (xsscons (xfor hpo rfl (xrg1 (by rfl) T.z_range (xv 3)) (xgn 9 sc_band_from.nd)
  (xssone (xifs (xtval (xcall tk (ok_has_one T) (hr.mono (by decide)) (by rfl) T.G_has_one T.F_has_one.kp T.B_has_one rfl (xacons (xlc (own := [("k", 11)]) rfl sc_band_from.nd asgn_ne (xiC (xv 7)) (blkOk_by (own := [("k", 11)]) (N := ["up", "row", "marks", "length", "width", "top", "above", "starts", "shifts", "t", "square", "k"]) (sc := defScope s_band_from) (by decide +kernel)) (fun _ _ _ _ _ => (xgn 11 sc_band_from.nd)) (fun _ _ _ _ _ => xyes) (fun _ _ _ _ _ => (xix (hu_of hr) (xv 6) (xmod (xadd (xv 11) (xv 9)) (xv 3))))) (xacons (xv 2) xanil)) (al_cons (al_cons al_nil)))) (xssone (xapp 8 (pe_bm PySem.F.plainAttrs_list PySem.F.slot_list_append PySem.F.type_list_append mt_append (pv 8) (pa_cons (xv 9) pa_nil))))
  xssnil)))
  (xfrz 8 (xfrz 4 (xfrz 3 (xssone (xret (xtup (xacons (xv 3) (xacons (xv 4) (xacons (xtupleOf (by rfl) T.z_tuple (xv 8)) xanil)))))))))))))))))
theorem ok_bands (T : Tx K mg ad) : FnOk P w K mg base (L2.CX P w) 5 ad.f_bands ad.d_bands ["sheet"] (fsp K (cmOf mg) 1 f_bands_2) := by
  refine fn_ok T.F_bands sc_bands (by decide) fun cdv A outer s H E hr => ?_
  have tk := tkOf (cm := cmOf mg) (X := bodyCx P w K mg base ["sheet", "marks", "found", "row"] "bands" s_bands ad.f_bands cdv A outer s H E) (takes_of rfl rfl rfl rfl)
  have hpo : PassesOwn (model P w) (bodyCx P w K mg base ["sheet", "marks", "found", "row"] "bands" s_bands ad.f_bands cdv A outer s H E).A (bodyCx P w K mg base ["sheet", "marks", "found", "row"] "bands" s_bands ad.f_bands cdv A outer s H E).env (bodyCx P w K mg base ["sheet", "marks", "found", "row"] "bands" s_bands ad.f_bands cdv A outer s H E).xe := passes_of rfl
  exact (xsscons (xset (i := 1) sc_bands.nd (xcall tk (ok_borders T) (hr.mono (by decide)) (by rfl) T.G_borders T.F_borders.kp T.B_borders rfl (xacons (xv 0) xanil) (al_cons al_nil)))
  (xsscons (xset (i := 2) sc_bands.nd (xlst xanil))
  (xsscons (xfor hpo rfl (xiS (xcall tk (ok_rows T) (hr.mono (by decide)) (by rfl) T.G_rows T.F_rows.kp T.B_rows rfl (xacons (xv 0) xanil) (al_cons al_nil))) (xgn 3 sc_bands.nd)
  (xssone (xifs (xtval (xcall tk (ok_has_one T) (hr.mono (by decide)) (by rfl) T.G_has_one T.F_has_one.kp T.B_has_one rfl (xacons (xv 3) (xacons (xv 1) xanil)) (al_cons (al_cons al_nil)))) (xssone (xapp 2 (pe_bm PySem.F.plainAttrs_list PySem.F.slot_list_append PySem.F.type_list_append mt_append (pv 2) (pa_cons (xcall tk (ok_band_from T) (hr.mono (by decide)) (by rfl) T.G_band_from T.F_band_from.kp T.B_band_from rfl (xacons (xix (hu_of hr) (xv 0) xint) (xacons (xv 3) (xacons (xv 1) xanil))) (al_cons (al_cons (al_cons al_nil)))) pa_nil))))
  xssnil)))
  (xfrz 2 (xssone (xret (xsortedA (hu2_of hr) (by rfl) T.z_sorted (xv 2))))))))
theorem ok_law_whole (T : Tx K mg ad) : FnOk P w K mg base (L2.CX P w) 1 ad.f_law_whole ad.d_law_whole ["_law_found"] (fsp K (cmOf mg) 1 f_law_whole) := by
  refine fn_ok T.F_law_whole sc_law_whole (by decide) fun cdv A outer s H E hr => ?_
  have tk := tkOf (cm := cmOf mg) (X := bodyCx P w K mg base ["_law_found"] "_law_whole" s_law_whole ad.f_law_whole cdv A outer s H E) (takes_of rfl rfl rfl rfl)
  have hpo : PassesOwn (model P w) (bodyCx P w K mg base ["_law_found"] "_law_whole" s_law_whole ad.f_law_whole cdv A outer s H E).A (bodyCx P w K mg base ["_law_found"] "_law_whole" s_law_whole ad.f_law_whole cdv A outer s H E).env (bodyCx P w K mg base ["_law_found"] "_law_whole" s_law_whole ad.f_law_whole cdv A outer s H E).xe := passes_of rfl
  exact (xssone (xret (xand (xisi (x := "int") (by rfl) T.z_isinstance (xv 0) (by rfl) T.z_int (by decide +kernel)) (xone (xnot (xisi (x := "bool") (by rfl) T.z_isinstance (xv 0) (by rfl) T.z_bool (by decide +kernel)))))))
theorem ok_law_gcd (T : Tx K mg ad) : FnOk P w K mg base (L2.CX P w) 1 ad.f_law_gcd ad.d_law_gcd ["_law_one", "_law_other"] (fsp K (cmOf mg) 2 f_law_gcd) := by
  refine fn_ok T.F_law_gcd sc_law_gcd (by decide) fun cdv A outer s H E hr => ?_
  have tk := tkOf (cm := cmOf mg) (X := bodyCx P w K mg base ["_law_one", "_law_other"] "_law_gcd" s_law_gcd ad.f_law_gcd cdv A outer s H E) (takes_of rfl rfl rfl rfl)
  have hpo : PassesOwn (model P w) (bodyCx P w K mg base ["_law_one", "_law_other"] "_law_gcd" s_law_gcd ad.f_law_gcd cdv A outer s H E).A (bodyCx P w K mg base ["_law_one", "_law_other"] "_law_gcd" s_law_gcd ad.f_law_gcd cdv A outer s H E).env (bodyCx P w K mg base ["_law_one", "_law_other"] "_law_gcd" s_law_gcd ad.f_law_gcd cdv A outer s H E).xe := passes_of rfl
  exact (xsscons (xpar rfl sc_law_gcd.nd (xacons (xabs (by rfl) T.z_abs (xv 0)) (xacons (xabs (by rfl) T.z_abs (xv 1)) xanil)) (by decide) (by rfl))
  (xsscons (xwhile hpo (xtne hr.units (xv 1) xint) (xssone (xpar rfl sc_law_gcd.nd (xacons (xv 1) (xacons (xmod (xv 0) (xv 1)) xanil)) (by decide) (by rfl))))
  (xssone (xretv 0))))
theorem ok_check_word (T : Tx K mg ad) : FnOk P w K mg base (L2.CX P w) 1 ad.f_check_word ad.d_check_word ["word"] (fsp K (cmOf mg) 1 f_check_word_3) := by
  obtain ⟨t_MOST_LETTERS, g_MOST_LETTERS⟩ := T.gv_MOST_LETTERS
  refine fn_ok T.F_check_word sc_check_word (by decide) fun cdv A outer s H E hr => ?_
  have tk := tkOf (cm := cmOf mg) (X := bodyCx P w K mg base ["word", "letter"] "check_word" s_check_word ad.f_check_word cdv A outer s H E) (takes_of rfl rfl rfl rfl)
  have hpo : PassesOwn (model P w) (bodyCx P w K mg base ["word", "letter"] "check_word" s_check_word ad.f_check_word cdv A outer s H E).A (bodyCx P w K mg base ["word", "letter"] "check_word" s_check_word ad.f_check_word cdv A outer s H E).env (bodyCx P w K mg base ["word", "letter"] "check_word" s_check_word ad.f_check_word cdv A outer s H E).xe := passes_of rfl
  exact (xsscons (xifs (xtgt  (xlen (by rfl) T.z_len (xv 0)) (xglob (by rfl) g_MOST_LETTERS rfl ⟨_, rfl⟩)) (xssone xnever)
  xssnil)
  (xssone (xfor hpo rfl (xiT (xv 0)) (xgn 1 sc_check_word.nd)
  (xssone (xifs (xtnotin (hu_of hr) (xv 1) xstr) (xssone xnever)
  xssnil)))))
theorem ok_sheared (T : Tx K mg ad) : FnOk P w K mg base (L2.CX P w) 2 ad.f_sheared ad.d_sheared ["sheet"] (fsp K (cmOf mg) 1 f_sheared) := by
  refine fn_ok T.F_sheared sc_sheared (by decide) fun cdv A outer s H E hr => ?_
  have tk := tkOf (cm := cmOf mg) (X := bodyCx P w K mg base ["sheet", "left", "right", "up", "square"] "sheared" s_sheared ad.f_sheared cdv A outer s H E) (takes_of rfl rfl rfl rfl)
  have hpo : PassesOwn (model P w) (bodyCx P w K mg base ["sheet", "left", "right", "up", "square"] "sheared" s_sheared ad.f_sheared cdv A outer s H E).A (bodyCx P w K mg base ["sheet", "left", "right", "up", "square"] "sheared" s_sheared ad.f_sheared cdv A outer s H E).env (bodyCx P w K mg base ["sheet", "left", "right", "up", "square"] "sheared" s_sheared ad.f_sheared cdv A outer s H E).xe := passes_of rfl
  exact (xsscons (xasg (unpT_ne (by simp only [List.forall_mem_cons]; exact ⟨asgn_ne, asgn_ne, by simp⟩)) (xv 0) (xgtup rfl (xgcons (xgn 2 sc_sheared.nd) (xgcons (xgn 3 sc_sheared.nd) xgnil))))
  (xsscons (xset (i := 1) sc_sheared.nd (xcall tk (ok_back_row T) (hr.mono (by decide)) (by rfl) T.G_back_row T.F_back_row.kp T.B_back_row rfl (xacons (xv 2) xanil) (al_cons al_nil)))
  (xfrz 1 (xssone (xret (xtup (xacons (xv 2) (xacons (xtupleOf (by rfl) T.z_tuple (xlc (own := [("square", 4)]) rfl sc_sheared.nd asgn_ne (xiC (xv 1)) (blkOk_by (own := [("square", 4)]) (N := ["sheet", "left", "right", "up", "square"]) (sc := defScope s_sheared) (by decide +kernel)) (fun _ _ _ _ _ => (xgn 4 sc_sheared.nd)) (fun _ _ _ _ _ => xyes) (fun _ _ _ _ _ => (xix (hu_of hr) (xv 3) (xv 4))))) xanil))))))))
theorem ok_turned (T : Tx K mg ad) : FnOk P w K mg base (L2.CX P w) 2 ad.f_turned ad.d_turned ["sheet"] (fsp K (cmOf mg) 1 f_turned) := by
  refine fn_ok T.F_turned sc_turned (by decide) fun cdv A outer s H E hr => ?_
  have tk := tkOf (cm := cmOf mg) (X := bodyCx P w K mg base ["sheet", "right", "up"] "turned" s_turned ad.f_turned cdv A outer s H E) (takes_of rfl rfl rfl rfl)
  have hpo : PassesOwn (model P w) (bodyCx P w K mg base ["sheet", "right", "up"] "turned" s_turned ad.f_turned cdv A outer s H E).A (bodyCx P w K mg base ["sheet", "right", "up"] "turned" s_turned ad.f_turned cdv A outer s H E).env (bodyCx P w K mg base ["sheet", "right", "up"] "turned" s_turned ad.f_turned cdv A outer s H E).xe := passes_of rfl
  exact (xsscons (xasg (unpT_ne (by simp only [List.forall_mem_cons]; exact ⟨asgn_ne, asgn_ne, by simp⟩)) (xv 0) (xgtup rfl (xgcons (xgn 1 sc_turned.nd) (xgcons (xgn 2 sc_turned.nd) xgnil))))
  (xssone (xret (xtup (xacons (xcall tk (ok_back_row T) (hr.mono (by decide)) (by rfl) T.G_back_row T.F_back_row.kp T.B_back_row rfl (xacons (xv 2) xanil) (al_cons al_nil)) (xacons (xv 1) xanil))))))
theorem ok_moved (T : Tx K mg ad) : FnOk P w K mg base (L2.CX P w) 3 ad.f_moved ad.d_moved ["sheet", "word"] (fsp K (cmOf mg) 2 f_moved_3) := by
  refine fn_ok T.F_moved sc_moved (by decide) fun cdv A outer s H E hr => ?_
  have tk := tkOf (cm := cmOf mg) (X := bodyCx P w K mg base ["sheet", "word", "letter"] "moved" s_moved ad.f_moved cdv A outer s H E) (takes_of rfl rfl rfl rfl)
  have hpo : PassesOwn (model P w) (bodyCx P w K mg base ["sheet", "word", "letter"] "moved" s_moved ad.f_moved cdv A outer s H E).A (bodyCx P w K mg base ["sheet", "word", "letter"] "moved" s_moved ad.f_moved cdv A outer s H E).env (bodyCx P w K mg base ["sheet", "word", "letter"] "moved" s_moved ad.f_moved cdv A outer s H E).xe := passes_of rfl
  exact (xsscons (xexpr (xcall tk (ok_check_word T) (hr.mono (by decide)) (by rfl) T.G_check_word T.F_check_word.kp T.B_check_word rfl (xacons (xv 1) xanil) (al_cons al_nil)))
  (xsscons (xfor hpo rfl (xiT (xv 1)) (xgn 2 sc_moved.nd)
  (xssone (xifs (xteq hr.units (xv 2) xstr) (xssone (xset (i := 0) sc_moved.nd (xcall tk (ok_sheared T) (hr.mono (by decide)) (by rfl) T.G_sheared T.F_sheared.kp T.B_sheared rfl (xacons (xv 0) xanil) (al_cons al_nil))))
  (xssone (xset (i := 0) sc_moved.nd (xcall tk (ok_turned T) (hr.mono (by decide)) (by rfl) T.G_turned T.F_turned.kp T.B_turned rfl (xacons (xv 0) xanil) (al_cons al_nil)))))))
  (xssone (xretv 0))))
theorem ok_law_leading (T : Tx K mg ad) : FnOk P w K mg base (L2.CX P w) 1 ad.f_law_leading ad.d_law_leading ["_law_one", "_law_other", "_law_first"] (fsp K (cmOf mg) 3 f_law_leading) := by
  refine fn_ok T.F_law_leading sc_law_leading (by decide) fun cdv A outer s H E hr => ?_
  have tk := tkOf (cm := cmOf mg) (X := bodyCx P w K mg base ["_law_one", "_law_other", "_law_first", "_law_numbers", "_law_met", "_law_at", "_law_here", "_law_row_here", "_law_there", "_law_goal", "_law_square"] "_law_leading" s_law_leading ad.f_law_leading cdv A outer s H E) (takes_of rfl rfl rfl rfl)
  have hpo : PassesOwn (model P w) (bodyCx P w K mg base ["_law_one", "_law_other", "_law_first", "_law_numbers", "_law_met", "_law_at", "_law_here", "_law_row_here", "_law_there", "_law_goal", "_law_square"] "_law_leading" s_law_leading ad.f_law_leading cdv A outer s H E).A (bodyCx P w K mg base ["_law_one", "_law_other", "_law_first", "_law_numbers", "_law_met", "_law_at", "_law_here", "_law_row_here", "_law_there", "_law_goal", "_law_square"] "_law_leading" s_law_leading ad.f_law_leading cdv A outer s H E).env (bodyCx P w K mg base ["_law_one", "_law_other", "_law_first", "_law_numbers", "_law_met", "_law_at", "_law_here", "_law_row_here", "_law_there", "_law_goal", "_law_square"] "_law_leading" s_law_leading ad.f_law_leading cdv A outer s H E).xe := passes_of rfl
  exact (xsscons (xset (i := 3) sc_law_leading.nd (xdisp [((cF (.int 0)), (varF 2))] (pps_cons xint (xv 2) pps_nil) (fun z => nomatch z)))
  (xsscons (xset (i := 4) sc_law_leading.nd (xlst (xacons xint xanil)))
  (xsscons (xset (i := 5) sc_law_leading.nd xint)
  (xsscons (xwhile hpo (xtlt  (xv 5) (xlen (by rfl) T.z_len (xv 4))) (xsscons (xset (i := 6) sc_law_leading.nd (xix (hu_of hr) (xv 4) (xv 5)))
  (xsscons (xfor hpo rfl (xzipS (by rfl) T.z_zip (xacons (xv 0) (xacons (xv 1) xanil))) (xgtup rfl (xgcons (xgn 7 sc_law_leading.nd) (xgcons (xgn 8 sc_law_leading.nd) xgnil)))
  (xsscons (xset (i := 9) sc_law_leading.nd (xix (hu_of hr) (xv 8) (xix (hu_of hr) (xv 3) (xv 6))))
  (xssone (xifs (xtnotin (hu_of hr) (xix (hu_of hr) (xv 7) (xv 6)) (xv 3)) (xsscons (xsetIt 3 (hu_of hr) (xv 9) (xix (hu_of hr) (xv 7) (xv 6)) (pv 3))
  (xssone (xapp 4 (pe_bm PySem.F.plainAttrs_list PySem.F.slot_list_append PySem.F.type_list_append mt_append (pv 4) (pa_cons (xix (hu_of hr) (xv 7) (xv 6)) pa_nil)))))
  (xssone (xifs (xtne hr.units (xix (hu_of hr) (xv 3) (xix (hu_of hr) (xv 7) (xv 6))) (xv 9)) (xssone (xret xnon))
  xssnil))))))
  (xssone (xset (i := 5) sc_law_leading.nd (xadd (xv 5) xint))))))
  (xfrz 4 (xssone (xret (xlc (own := [("_law_square", 10)]) rfl sc_law_leading.nd asgn_ne (xrg1 (by rfl) T.z_range (xlen (by rfl) T.z_len (xv 4))) (blkOk_by (own := [("_law_square", 10)]) (N := ["_law_one", "_law_other", "_law_first", "_law_numbers", "_law_met", "_law_at", "_law_here", "_law_row_here", "_law_there", "_law_goal", "_law_square"]) (sc := defScope s_law_leading) (by decide +kernel)) (fun _ _ _ _ _ => (xgn 10 sc_law_leading.nd)) (fun _ _ _ _ _ => xyes) (fun _ _ _ _ _ => (xix (hu_of hr) (xv 3) (xv 10)))))))))))
theorem ok_law_same (T : Tx K mg ad) : FnOk P w K mg base (L2.CX P w) 2 ad.f_law_same ad.d_law_same ["_law_one", "_law_other"] (fsp K (cmOf mg) 2 f_law_same) := by
  refine fn_ok T.F_law_same sc_law_same (by decide) fun cdv A outer s H E hr => ?_
  have tk := tkOf (cm := cmOf mg) (X := bodyCx P w K mg base ["_law_one", "_law_other", "_law_first", "_law_found"] "_law_same" s_law_same ad.f_law_same cdv A outer s H E) (takes_of rfl rfl rfl rfl)
  have hpo : PassesOwn (model P w) (bodyCx P w K mg base ["_law_one", "_law_other", "_law_first", "_law_found"] "_law_same" s_law_same ad.f_law_same cdv A outer s H E).A (bodyCx P w K mg base ["_law_one", "_law_other", "_law_first", "_law_found"] "_law_same" s_law_same ad.f_law_same cdv A outer s H E).env (bodyCx P w K mg base ["_law_one", "_law_other", "_law_first", "_law_found"] "_law_same" s_law_same ad.f_law_same cdv A outer s H E).xe := passes_of rfl
  exact (xsscons (xifs (xtne hr.units (xlen (by rfl) T.z_len (xix (hu_of hr) (xv 0) xint)) (xlen (by rfl) T.z_len (xix (hu_of hr) (xv 1) xint))) (xssone (xret xbl))
  xssnil)
  (xsscons (xfor hpo rfl (xrg1 (by rfl) T.z_range (xlen (by rfl) T.z_len (xix (hu_of hr) (xv 1) xint))) (xgn 2 sc_law_same.nd)
  (xsscons (xset (i := 3) sc_law_same.nd (xcall tk (ok_law_leading T) (hr.mono (by decide)) (by rfl) T.G_law_leading T.F_law_leading.kp T.B_law_leading rfl (xacons (xv 0) (xacons (xv 1) (xacons (xv 2) xanil))) (al_cons (al_cons (al_cons al_nil)))))
  (xssone (xifs (PW.pt (xwand (xtisnot  (xv 3) xnon) (xwand1 (xteq hr.units (xlenSet (by rfl) T.z_len (by rfl) T.z_set (xv 3)) (xlen (by rfl) T.z_len (xv 3)))))) (xssone (xret xbl))
  xssnil))))
  (xssone (xret xbl))))
theorem ok_law (T : Tx K mg ad) : FnOk P w K mg base (L2.CX P w) 6 ad.f_law ad.d_law ["_law_script"] (fsp K (cmOf mg) 1 f_law_k65_whole_twists_come_round) := by
  refine fn_ok T.F_law sc_law (by decide) fun cdv A outer s H E hr => ?_
  have tk := tkOf (cm := cmOf mg) (X := bodyCx P w K mg base ["_law_script", "_law_cell", "_law_sheet_here", "_law_often", "_law_band", "_law_far", "_law_size_told", "_law_turns_told"] "law" s_law ad.f_law cdv A outer s H E) (takes_of rfl rfl rfl rfl)
  have hpo : PassesOwn (model P w) (bodyCx P w K mg base ["_law_script", "_law_cell", "_law_sheet_here", "_law_often", "_law_band", "_law_far", "_law_size_told", "_law_turns_told"] "law" s_law ad.f_law cdv A outer s H E).A (bodyCx P w K mg base ["_law_script", "_law_cell", "_law_sheet_here", "_law_often", "_law_band", "_law_far", "_law_size_told", "_law_turns_told"] "law" s_law ad.f_law cdv A outer s H E).env (bodyCx P w K mg base ["_law_script", "_law_cell", "_law_sheet_here", "_law_often", "_law_band", "_law_far", "_law_size_told", "_law_turns_told"] "law" s_law ad.f_law cdv A outer s H E).xe := passes_of rfl
  exact (xsscons (xset (i := 1) sc_law.nd (xcall tk (ok_law_cell_at T) (hr.mono (by decide)) (by rfl) T.G_law_cell_at T.F_law_cell_at.kp T.B_law_cell_at rfl (xacons (xv 0) (xacons xint xanil)) (al_cons (al_cons al_nil))))
  (xsscons (xset (i := 2) sc_law.nd (xcall tk (ok_law_sheet_by T) (hr.mono (by decide)) (by rfl) T.G_law_sheet_by T.F_law_sheet_by.kp T.B_law_sheet_by rfl (xacons (xv 0) (xacons (xadd xint (xmod (xdiv (xv 1) xint) xint)) xanil)) (al_cons (al_cons al_nil))))
  (xsscons (xifs (xteq hr.units (xmod (xv 1) xint) xint) (xssone (xset (i := 2) sc_law.nd (xcall tk (ok_law_sheet T) (hr.mono (by decide)) (by rfl) T.G_law_sheet T.F_law_sheet.kp T.B_law_sheet rfl (xacons (xv 0) (xacons xint (xacons (xadd xint (xmod (xdiv (xv 1) xint) xint)) xanil))) (al_cons (al_cons (al_cons al_nil))))))
  xssnil)
  (xsscons (xifs (xteq hr.units (xmod (xv 1) xint) xint) (xsscons (xset (i := 6) sc_law.nd (xadd xint (xmod (xdiv (xv 1) xint) xint)))
  (xssone (xset (i := 2) sc_law.nd (xcall tk (ok_law_rows_alike T) (hr.mono (by decide)) (by rfl) T.G_law_rows_alike T.F_law_rows_alike.kp T.B_law_rows_alike rfl (xacons (xv 0) (xacons (xmul (xv 6) (xadd xint (xmod (xdiv (xv 1) xint) xint))) (xacons (xv 6) xanil))) (al_cons (al_cons (al_cons al_nil)))))))
  xssnil)
  (xsscons (xset (i := 3) sc_law.nd xint)
  (xsscons (xfor hpo rfl (xiS (xcall tk (ok_bands T) (hr.mono (by decide)) (by rfl) T.G_bands T.F_bands.kp T.B_bands rfl (xacons (xv 2) xanil) (al_cons al_nil))) (xgn 4 sc_law.nd)
  (xsscons (xifs (PW.pt (xwor (xtnot (xtval (xcall tk (ok_law_whole T) (hr.mono (by decide)) (by rfl) T.G_law_whole T.F_law_whole.kp T.B_law_whole rfl (xacons (xix (hu_of hr) (xv 4) xint) xanil) (al_cons al_nil)))) (xwor (xtnot (xtval (xcall tk (ok_law_whole T) (hr.mono (by decide)) (by rfl) T.G_law_whole T.F_law_whole.kp T.B_law_whole rfl (xacons (xix (hu_of hr) (xv 4) xint) xanil) (al_cons al_nil)))) (xwor (xtlt  (xix (hu_of hr) (xv 4) xint) xint) (xwor1 (xtgt  (xix (hu_of hr) (xv 4) xint) xint)))))) (xssone (xret xbl))
  xssnil)
  (xsscons (xset (i := 7) sc_law.nd (xdiv (xix (hu_of hr) (xv 4) xint) (xcall tk (ok_law_gcd T) (hr.mono (by decide)) (by rfl) T.G_law_gcd T.F_law_gcd.kp T.B_law_gcd rfl (xacons (xix (hu_of hr) (xv 4) xint) (xacons (xix (hu_of hr) (xv 4) xint) xanil)) (al_cons (al_cons al_nil)))))
  (xssone (xset (i := 3) sc_law.nd (xdiv (xmul (xv 3) (xv 7)) (xcall tk (ok_law_gcd T) (hr.mono (by decide)) (by rfl) T.G_law_gcd T.F_law_gcd.kp T.B_law_gcd rfl (xacons (xv 3) (xacons (xv 7) xanil)) (al_cons (al_cons al_nil)))))))))
  (xsscons (xset (i := 5) sc_law.nd (xcall tk (ok_moved T) (hr.mono (by decide)) (by rfl) T.G_moved T.F_moved.kp T.B_moved rfl (xacons (xv 2) (xacons (xsrep xstr (xv 3)) xanil)) (al_cons (al_cons al_nil))))
  (xfrz 5 (xfrz 2 (xssone (xret (xand (xcall tk (ok_law_same T) (hr.mono (by decide)) (by rfl) T.G_law_same T.F_law_same.kp T.B_law_same rfl (xacons (xv 2) (xacons (xv 5) xanil)) (al_cons (al_cons al_nil))) (xone (xcall tk (ok_law_same T) (hr.mono (by decide)) (by rfl) T.G_law_same T.F_law_same.kp T.B_law_same rfl (xacons (xcall tk (ok_sheared T) (hr.mono (by decide)) (by rfl) T.G_sheared T.F_sheared.kp T.B_sheared rfl (xacons (xv 5) xanil) (al_cons al_nil)) (xacons (xcall tk (ok_sheared T) (hr.mono (by decide)) (by rfl) T.G_sheared T.F_sheared.kp T.B_sheared rfl (xacons (xv 2) xanil) (al_cons al_nil)) xanil)) (al_cons (al_cons al_nil))))))))))))))))
end
theorem all_mk {l : PySem.W.OpenLaw} {w : World} {K : PySem.W.Frag} {h : Heap} {mg : Str → Option Value} {fa f_law_cell_at f_law_together f_law_row_by f_law_sheet_by f_law_row f_law_spread f_law_sheet f_law_rows_alike f_back_row f_size f_turn_row f_round_by f_corners f_borders f_rows f_has_one f_band_from f_bands f_law_whole f_law_gcd f_check_word f_sheared f_turned f_moved f_law_leading f_law_same f_law : Addr} (X : K.In h) (G : h.Ns mainGlobals mg) (hfa : mg "law" = some (.ref fa))
    {od_law_cell_at an_law_cell_at od_law_together an_law_together od_law_row_by an_law_row_by od_law_sheet_by an_law_sheet_by od_law_row an_law_row od_law_spread an_law_spread od_law_sheet an_law_sheet od_law_rows_alike an_law_rows_alike od_back_row an_back_row od_size an_size od_turn_row an_turn_row od_round_by an_round_by od_corners an_corners od_borders an_borders od_rows an_rows od_has_one an_has_one od_band_from an_band_from od_bands an_bands od_law_whole an_law_whole od_law_gcd an_law_gcd od_check_word an_check_word od_sheared an_sheared od_turned an_turned od_moved an_moved od_law_leading an_law_leading od_law_same an_law_same od_law an_law : Option Addr} {sl_law_cell_at sl_law_together sl_law_row_by sl_law_sheet_by sl_law_row sl_law_spread sl_law_sheet sl_law_rows_alike sl_back_row sl_size sl_turn_row sl_round_by sl_corners sl_borders sl_rows sl_has_one sl_band_from sl_bands sl_law_whole sl_law_gcd sl_check_word sl_sheared sl_turned sl_moved sl_law_leading sl_law_same sl_law : Array (Option Value)} {oc_law_cell_at kV_law_cell_at dc_law_cell_at pm_law_cell_at cd_law_cell_at ct_law_cell_at oc_law_together kV_law_together dc_law_together pm_law_together cd_law_together ct_law_together oc_law_row_by kV_law_row_by dc_law_row_by pm_law_row_by cd_law_row_by ct_law_row_by oc_law_sheet_by kV_law_sheet_by dc_law_sheet_by pm_law_sheet_by cd_law_sheet_by ct_law_sheet_by oc_law_row kV_law_row dc_law_row pm_law_row cd_law_row ct_law_row oc_law_spread kV_law_spread dc_law_spread pm_law_spread cd_law_spread ct_law_spread oc_law_sheet kV_law_sheet dc_law_sheet pm_law_sheet cd_law_sheet ct_law_sheet oc_law_rows_alike kV_law_rows_alike dc_law_rows_alike pm_law_rows_alike cd_law_rows_alike ct_law_rows_alike oc_back_row kV_back_row dc_back_row pm_back_row cd_back_row ct_back_row oc_size kV_size dc_size pm_size cd_size ct_size oc_turn_row kV_turn_row dc_turn_row pm_turn_row cd_turn_row ct_turn_row oc_round_by kV_round_by dc_round_by pm_round_by cd_round_by ct_round_by oc_corners kV_corners dc_corners pm_corners cd_corners ct_corners oc_borders kV_borders dc_borders pm_borders cd_borders ct_borders oc_rows kV_rows dc_rows pm_rows cd_rows ct_rows oc_has_one kV_has_one dc_has_one pm_has_one cd_has_one ct_has_one oc_band_from kV_band_from dc_band_from pm_band_from cd_band_from ct_band_from oc_bands kV_bands dc_bands pm_bands cd_bands ct_bands oc_law_whole kV_law_whole dc_law_whole pm_law_whole cd_law_whole ct_law_whole oc_law_gcd kV_law_gcd dc_law_gcd pm_law_gcd cd_law_gcd ct_law_gcd oc_check_word kV_check_word dc_check_word pm_check_word cd_check_word ct_check_word oc_sheared kV_sheared dc_sheared pm_sheared cd_sheared ct_sheared oc_turned kV_turned dc_turned pm_turned cd_turned ct_turned oc_moved kV_moved dc_moved pm_moved cd_moved ct_moved oc_law_leading kV_law_leading dc_law_leading pm_law_leading cd_law_leading ct_law_leading oc_law_same kV_law_same dc_law_same pm_law_same cd_law_same ct_law_same oc_law kV_law dc_law pm_law cd_law ct_law : Value} {t_MOST_LETTERS : Tok}
    (a_law_cell_at : PySem.W.nsIn K mainGlobals "_law_cell_at" = some (some (.ref f_law_cell_at))) (l_law_cell_at : K.lookup f_law_cell_at = some ⟨oc_law_cell_at, od_law_cell_at, .func (PySem.W.fnOf "_law_cell_at" "_law_cell_at" (defArgs s_law_cell_at) (defBody s_law_cell_at) (defScope s_law_cell_at) .none kV_law_cell_at dc_law_cell_at pm_law_cell_at an_law_cell_at cd_law_cell_at ct_law_cell_at), sl_law_cell_at⟩) (c_law_cell_at : PySem.W.codeIn K cd_law_cell_at "_law_cell_at" = true) (k_law_cell_at : PySem.W.keepIn K (.ref f_law_cell_at) = true)
    (a_law_together : PySem.W.nsIn K mainGlobals "_law_together" = some (some (.ref f_law_together))) (l_law_together : K.lookup f_law_together = some ⟨oc_law_together, od_law_together, .func (PySem.W.fnOf "_law_together" "_law_together" (defArgs s_law_together) (defBody s_law_together) (defScope s_law_together) .none kV_law_together dc_law_together pm_law_together an_law_together cd_law_together ct_law_together), sl_law_together⟩) (c_law_together : PySem.W.codeIn K cd_law_together "_law_together" = true) (k_law_together : PySem.W.keepIn K (.ref f_law_together) = true)
    (a_law_row_by : PySem.W.nsIn K mainGlobals "_law_row_by" = some (some (.ref f_law_row_by))) (l_law_row_by : K.lookup f_law_row_by = some ⟨oc_law_row_by, od_law_row_by, .func (PySem.W.fnOf "_law_row_by" "_law_row_by" (defArgs s_law_row_by) (defBody s_law_row_by) (defScope s_law_row_by) .none kV_law_row_by dc_law_row_by pm_law_row_by an_law_row_by cd_law_row_by ct_law_row_by), sl_law_row_by⟩) (c_law_row_by : PySem.W.codeIn K cd_law_row_by "_law_row_by" = true) (k_law_row_by : PySem.W.keepIn K (.ref f_law_row_by) = true)
    (a_law_sheet_by : PySem.W.nsIn K mainGlobals "_law_sheet_by" = some (some (.ref f_law_sheet_by))) (l_law_sheet_by : K.lookup f_law_sheet_by = some ⟨oc_law_sheet_by, od_law_sheet_by, .func (PySem.W.fnOf "_law_sheet_by" "_law_sheet_by" (defArgs s_law_sheet_by) (defBody s_law_sheet_by) (defScope s_law_sheet_by) .none kV_law_sheet_by dc_law_sheet_by pm_law_sheet_by an_law_sheet_by cd_law_sheet_by ct_law_sheet_by), sl_law_sheet_by⟩) (c_law_sheet_by : PySem.W.codeIn K cd_law_sheet_by "_law_sheet_by" = true) (k_law_sheet_by : PySem.W.keepIn K (.ref f_law_sheet_by) = true)
    (a_law_row : PySem.W.nsIn K mainGlobals "_law_row" = some (some (.ref f_law_row))) (l_law_row : K.lookup f_law_row = some ⟨oc_law_row, od_law_row, .func (PySem.W.fnOf "_law_row" "_law_row" (defArgs s_law_row) (defBody s_law_row) (defScope s_law_row) .none kV_law_row dc_law_row pm_law_row an_law_row cd_law_row ct_law_row), sl_law_row⟩) (c_law_row : PySem.W.codeIn K cd_law_row "_law_row" = true) (k_law_row : PySem.W.keepIn K (.ref f_law_row) = true)
    (a_law_spread : PySem.W.nsIn K mainGlobals "_law_spread" = some (some (.ref f_law_spread))) (l_law_spread : K.lookup f_law_spread = some ⟨oc_law_spread, od_law_spread, .func (PySem.W.fnOf "_law_spread" "_law_spread" (defArgs s_law_spread) (defBody s_law_spread) (defScope s_law_spread) .none kV_law_spread dc_law_spread pm_law_spread an_law_spread cd_law_spread ct_law_spread), sl_law_spread⟩) (c_law_spread : PySem.W.codeIn K cd_law_spread "_law_spread" = true) (k_law_spread : PySem.W.keepIn K (.ref f_law_spread) = true)
    (a_law_sheet : PySem.W.nsIn K mainGlobals "_law_sheet" = some (some (.ref f_law_sheet))) (l_law_sheet : K.lookup f_law_sheet = some ⟨oc_law_sheet, od_law_sheet, .func (PySem.W.fnOf "_law_sheet" "_law_sheet" (defArgs s_law_sheet) (defBody s_law_sheet) (defScope s_law_sheet) .none kV_law_sheet dc_law_sheet pm_law_sheet an_law_sheet cd_law_sheet ct_law_sheet), sl_law_sheet⟩) (c_law_sheet : PySem.W.codeIn K cd_law_sheet "_law_sheet" = true) (k_law_sheet : PySem.W.keepIn K (.ref f_law_sheet) = true)
    (a_law_rows_alike : PySem.W.nsIn K mainGlobals "_law_rows_alike" = some (some (.ref f_law_rows_alike))) (l_law_rows_alike : K.lookup f_law_rows_alike = some ⟨oc_law_rows_alike, od_law_rows_alike, .func (PySem.W.fnOf "_law_rows_alike" "_law_rows_alike" (defArgs s_law_rows_alike) (defBody s_law_rows_alike) (defScope s_law_rows_alike) .none kV_law_rows_alike dc_law_rows_alike pm_law_rows_alike an_law_rows_alike cd_law_rows_alike ct_law_rows_alike), sl_law_rows_alike⟩) (c_law_rows_alike : PySem.W.codeIn K cd_law_rows_alike "_law_rows_alike" = true) (k_law_rows_alike : PySem.W.keepIn K (.ref f_law_rows_alike) = true)
    (a_back_row : PySem.W.nsIn K mainGlobals "back_row" = some (some (.ref f_back_row))) (l_back_row : K.lookup f_back_row = some ⟨oc_back_row, od_back_row, .func (PySem.W.fnOf "back_row" "back_row" (defArgs s_back_row) (defBody s_back_row) (defScope s_back_row) .none kV_back_row dc_back_row pm_back_row an_back_row cd_back_row ct_back_row), sl_back_row⟩) (c_back_row : PySem.W.codeIn K cd_back_row "back_row" = true) (k_back_row : PySem.W.keepIn K (.ref f_back_row) = true)
    (a_size : PySem.W.nsIn K mainGlobals "size" = some (some (.ref f_size))) (l_size : K.lookup f_size = some ⟨oc_size, od_size, .func (PySem.W.fnOf "size" "size" (defArgs s_size) (defBody s_size) (defScope s_size) .none kV_size dc_size pm_size an_size cd_size ct_size), sl_size⟩) (c_size : PySem.W.codeIn K cd_size "size" = true) (k_size : PySem.W.keepIn K (.ref f_size) = true)
    (a_turn_row : PySem.W.nsIn K mainGlobals "turn_row" = some (some (.ref f_turn_row))) (l_turn_row : K.lookup f_turn_row = some ⟨oc_turn_row, od_turn_row, .func (PySem.W.fnOf "turn_row" "turn_row" (defArgs s_turn_row) (defBody s_turn_row) (defScope s_turn_row) .none kV_turn_row dc_turn_row pm_turn_row an_turn_row cd_turn_row ct_turn_row), sl_turn_row⟩) (c_turn_row : PySem.W.codeIn K cd_turn_row "turn_row" = true) (k_turn_row : PySem.W.keepIn K (.ref f_turn_row) = true)
    (a_round_by : PySem.W.nsIn K mainGlobals "round_by" = some (some (.ref f_round_by))) (l_round_by : K.lookup f_round_by = some ⟨oc_round_by, od_round_by, .func (PySem.W.fnOf "round_by" "round_by" (defArgs s_round_by) (defBody s_round_by) (defScope s_round_by) .none kV_round_by dc_round_by pm_round_by an_round_by cd_round_by ct_round_by), sl_round_by⟩) (c_round_by : PySem.W.codeIn K cd_round_by "round_by" = true) (k_round_by : PySem.W.keepIn K (.ref f_round_by) = true)
    (a_corners : PySem.W.nsIn K mainGlobals "corners" = some (some (.ref f_corners))) (l_corners : K.lookup f_corners = some ⟨oc_corners, od_corners, .func (PySem.W.fnOf "corners" "corners" (defArgs s_corners) (defBody s_corners) (defScope s_corners) .none kV_corners dc_corners pm_corners an_corners cd_corners ct_corners), sl_corners⟩) (c_corners : PySem.W.codeIn K cd_corners "corners" = true) (k_corners : PySem.W.keepIn K (.ref f_corners) = true)
    (a_borders : PySem.W.nsIn K mainGlobals "borders" = some (some (.ref f_borders))) (l_borders : K.lookup f_borders = some ⟨oc_borders, od_borders, .func (PySem.W.fnOf "borders" "borders" (defArgs s_borders) (defBody s_borders) (defScope s_borders) .none kV_borders dc_borders pm_borders an_borders cd_borders ct_borders), sl_borders⟩) (c_borders : PySem.W.codeIn K cd_borders "borders" = true) (k_borders : PySem.W.keepIn K (.ref f_borders) = true)
    (a_rows : PySem.W.nsIn K mainGlobals "rows" = some (some (.ref f_rows))) (l_rows : K.lookup f_rows = some ⟨oc_rows, od_rows, .func (PySem.W.fnOf "rows" "rows" (defArgs s_rows) (defBody s_rows) (defScope s_rows) .none kV_rows dc_rows pm_rows an_rows cd_rows ct_rows), sl_rows⟩) (c_rows : PySem.W.codeIn K cd_rows "rows" = true) (k_rows : PySem.W.keepIn K (.ref f_rows) = true)
    (a_has_one : PySem.W.nsIn K mainGlobals "has_one" = some (some (.ref f_has_one))) (l_has_one : K.lookup f_has_one = some ⟨oc_has_one, od_has_one, .func (PySem.W.fnOf "has_one" "has_one" (defArgs s_has_one) (defBody s_has_one) (defScope s_has_one) .none kV_has_one dc_has_one pm_has_one an_has_one cd_has_one ct_has_one), sl_has_one⟩) (c_has_one : PySem.W.codeIn K cd_has_one "has_one" = true) (k_has_one : PySem.W.keepIn K (.ref f_has_one) = true)
    (a_band_from : PySem.W.nsIn K mainGlobals "band_from" = some (some (.ref f_band_from))) (l_band_from : K.lookup f_band_from = some ⟨oc_band_from, od_band_from, .func (PySem.W.fnOf "band_from" "band_from" (defArgs s_band_from) (defBody s_band_from) (defScope s_band_from) .none kV_band_from dc_band_from pm_band_from an_band_from cd_band_from ct_band_from), sl_band_from⟩) (c_band_from : PySem.W.codeIn K cd_band_from "band_from" = true) (k_band_from : PySem.W.keepIn K (.ref f_band_from) = true)
    (a_bands : PySem.W.nsIn K mainGlobals "bands" = some (some (.ref f_bands))) (l_bands : K.lookup f_bands = some ⟨oc_bands, od_bands, .func (PySem.W.fnOf "bands" "bands" (defArgs s_bands) (defBody s_bands) (defScope s_bands) .none kV_bands dc_bands pm_bands an_bands cd_bands ct_bands), sl_bands⟩) (c_bands : PySem.W.codeIn K cd_bands "bands" = true) (k_bands : PySem.W.keepIn K (.ref f_bands) = true)
    (a_law_whole : PySem.W.nsIn K mainGlobals "_law_whole" = some (some (.ref f_law_whole))) (l_law_whole : K.lookup f_law_whole = some ⟨oc_law_whole, od_law_whole, .func (PySem.W.fnOf "_law_whole" "_law_whole" (defArgs s_law_whole) (defBody s_law_whole) (defScope s_law_whole) .none kV_law_whole dc_law_whole pm_law_whole an_law_whole cd_law_whole ct_law_whole), sl_law_whole⟩) (c_law_whole : PySem.W.codeIn K cd_law_whole "_law_whole" = true) (k_law_whole : PySem.W.keepIn K (.ref f_law_whole) = true)
    (a_law_gcd : PySem.W.nsIn K mainGlobals "_law_gcd" = some (some (.ref f_law_gcd))) (l_law_gcd : K.lookup f_law_gcd = some ⟨oc_law_gcd, od_law_gcd, .func (PySem.W.fnOf "_law_gcd" "_law_gcd" (defArgs s_law_gcd) (defBody s_law_gcd) (defScope s_law_gcd) .none kV_law_gcd dc_law_gcd pm_law_gcd an_law_gcd cd_law_gcd ct_law_gcd), sl_law_gcd⟩) (c_law_gcd : PySem.W.codeIn K cd_law_gcd "_law_gcd" = true) (k_law_gcd : PySem.W.keepIn K (.ref f_law_gcd) = true)
    (a_check_word : PySem.W.nsIn K mainGlobals "check_word" = some (some (.ref f_check_word))) (l_check_word : K.lookup f_check_word = some ⟨oc_check_word, od_check_word, .func (PySem.W.fnOf "check_word" "check_word" (defArgs s_check_word) (defBody s_check_word) (defScope s_check_word) .none kV_check_word dc_check_word pm_check_word an_check_word cd_check_word ct_check_word), sl_check_word⟩) (c_check_word : PySem.W.codeIn K cd_check_word "check_word" = true) (k_check_word : PySem.W.keepIn K (.ref f_check_word) = true)
    (a_sheared : PySem.W.nsIn K mainGlobals "sheared" = some (some (.ref f_sheared))) (l_sheared : K.lookup f_sheared = some ⟨oc_sheared, od_sheared, .func (PySem.W.fnOf "sheared" "sheared" (defArgs s_sheared) (defBody s_sheared) (defScope s_sheared) .none kV_sheared dc_sheared pm_sheared an_sheared cd_sheared ct_sheared), sl_sheared⟩) (c_sheared : PySem.W.codeIn K cd_sheared "sheared" = true) (k_sheared : PySem.W.keepIn K (.ref f_sheared) = true)
    (a_turned : PySem.W.nsIn K mainGlobals "turned" = some (some (.ref f_turned))) (l_turned : K.lookup f_turned = some ⟨oc_turned, od_turned, .func (PySem.W.fnOf "turned" "turned" (defArgs s_turned) (defBody s_turned) (defScope s_turned) .none kV_turned dc_turned pm_turned an_turned cd_turned ct_turned), sl_turned⟩) (c_turned : PySem.W.codeIn K cd_turned "turned" = true) (k_turned : PySem.W.keepIn K (.ref f_turned) = true)
    (a_moved : PySem.W.nsIn K mainGlobals "moved" = some (some (.ref f_moved))) (l_moved : K.lookup f_moved = some ⟨oc_moved, od_moved, .func (PySem.W.fnOf "moved" "moved" (defArgs s_moved) (defBody s_moved) (defScope s_moved) .none kV_moved dc_moved pm_moved an_moved cd_moved ct_moved), sl_moved⟩) (c_moved : PySem.W.codeIn K cd_moved "moved" = true) (k_moved : PySem.W.keepIn K (.ref f_moved) = true)
    (a_law_leading : PySem.W.nsIn K mainGlobals "_law_leading" = some (some (.ref f_law_leading))) (l_law_leading : K.lookup f_law_leading = some ⟨oc_law_leading, od_law_leading, .func (PySem.W.fnOf "_law_leading" "_law_leading" (defArgs s_law_leading) (defBody s_law_leading) (defScope s_law_leading) .none kV_law_leading dc_law_leading pm_law_leading an_law_leading cd_law_leading ct_law_leading), sl_law_leading⟩) (c_law_leading : PySem.W.codeIn K cd_law_leading "_law_leading" = true) (k_law_leading : PySem.W.keepIn K (.ref f_law_leading) = true)
    (a_law_same : PySem.W.nsIn K mainGlobals "_law_same" = some (some (.ref f_law_same))) (l_law_same : K.lookup f_law_same = some ⟨oc_law_same, od_law_same, .func (PySem.W.fnOf "_law_same" "_law_same" (defArgs s_law_same) (defBody s_law_same) (defScope s_law_same) .none kV_law_same dc_law_same pm_law_same an_law_same cd_law_same ct_law_same), sl_law_same⟩) (c_law_same : PySem.W.codeIn K cd_law_same "_law_same" = true) (k_law_same : PySem.W.keepIn K (.ref f_law_same) = true)
    (a_law : PySem.W.nsIn K mainGlobals "law" = some (some (.ref f_law))) (l_law : K.lookup f_law = some ⟨oc_law, od_law, .func (PySem.W.fnOf "law" "law" (defArgs s_law) (defBody s_law) (defScope s_law) .none kV_law dc_law pm_law an_law cd_law ct_law), sl_law⟩) (c_law : PySem.W.codeIn K cd_law "law" = true) (k_law : PySem.W.keepIn K (.ref f_law) = true)
    (z_len : PySem.W.nsIn K mainGlobals "len" = some none)
    (z_sorted : PySem.W.nsIn K mainGlobals "sorted" = some none)
    (z_tuple : PySem.W.nsIn K mainGlobals "tuple" = some none)
    (z_list : PySem.W.nsIn K mainGlobals "list" = some none)
    (z_range : PySem.W.nsIn K mainGlobals "range" = some none)
    (z_enumerate : PySem.W.nsIn K mainGlobals "enumerate" = some none)
    (z_any : PySem.W.nsIn K mainGlobals "any" = some none)
    (z_isinstance : PySem.W.nsIn K mainGlobals "isinstance" = some none)
    (z_int : PySem.W.nsIn K mainGlobals "int" = some none)
    (z_bool : PySem.W.nsIn K mainGlobals "bool" = some none)
    (z_abs : PySem.W.nsIn K mainGlobals "abs" = some none)
    (z_zip : PySem.W.nsIn K mainGlobals "zip" = some none)
    (z_set : PySem.W.nsIn K mainGlobals "set" = some none)
    (g_MOST_LETTERS : PySem.W.nsIn K mainGlobals "MOST_LETTERS" = some (some (.int (1000) t_MOST_LETTERS)))
    : ∃ fd : FuncData, (∀ (s : Shared) (v : Value), BindsTo s fd ⟨[v], []⟩ [("_law_script", v)]) ∧ ∀ base : Heap, K.In base → base.Ns mainGlobals mg → FnOk l.prog w K mg base (L2.CX l.prog w) 6 fa fd ["_law_script"] (lawSp K) := by
  have e := hfa.symm.trans (PySem.W.mg_of X G a_law)
  cases e
  have F_law_cell_at := fun_mk (st := s_law_cell_at) l_law_cell_at c_law_cell_at k_law_cell_at
  have b_law_cell_at := F_law_cell_at.binds (ps := ["_law_script", "_law_k"]) fun _ _ _ _ _ _ us hl => match us, hl with | [_, _], _ => rfl
  have F_law_together := fun_mk (st := s_law_together) l_law_together c_law_together k_law_together
  have b_law_together := F_law_together.binds (ps := ["_law_right", "_law_up"]) fun _ _ _ _ _ _ us hl => match us, hl with | [_, _], _ => rfl
  have F_law_row_by := fun_mk (st := s_law_row_by) l_law_row_by c_law_row_by k_law_row_by
  have b_law_row_by := F_law_row_by.binds (ps := ["_law_cell", "_law_many"]) fun _ _ _ _ _ _ us hl => match us, hl with | [_, _], _ => rfl
  have F_law_sheet_by := fun_mk (st := s_law_sheet_by) l_law_sheet_by c_law_sheet_by k_law_sheet_by
  have b_law_sheet_by := F_law_sheet_by.binds (ps := ["_law_script", "_law_many"]) fun _ _ _ _ _ _ us hl => match us, hl with | [_, _], _ => rfl
  have F_law_row := fun_mk (st := s_law_row) l_law_row c_law_row k_law_row
  have b_law_row := F_law_row.binds (ps := ["_law_cells"]) fun _ _ _ _ _ _ us hl => match us, hl with | [_], _ => rfl
  have F_law_spread := fun_mk (st := s_law_spread) l_law_spread c_law_spread k_law_spread
  have b_law_spread := F_law_spread.binds (ps := ["_law_script", "_law_k"]) fun _ _ _ _ _ _ us hl => match us, hl with | [_, _], _ => rfl
  have F_law_sheet := fun_mk (st := s_law_sheet) l_law_sheet c_law_sheet k_law_sheet
  have b_law_sheet := F_law_sheet.binds (ps := ["_law_script", "_law_at", "_law_many"]) fun _ _ _ _ _ _ us hl => match us, hl with | [_, _, _], _ => rfl
  have F_law_rows_alike := fun_mk (st := s_law_rows_alike) l_law_rows_alike c_law_rows_alike k_law_rows_alike
  have b_law_rows_alike := F_law_rows_alike.binds (ps := ["_law_script", "_law_many", "_law_size_told"]) fun _ _ _ _ _ _ us hl => match us, hl with | [_, _, _], _ => rfl
  have F_back_row := fun_mk (st := s_back_row) l_back_row c_back_row k_back_row
  have b_back_row := F_back_row.binds (ps := ["row"]) fun _ _ _ _ _ _ us hl => match us, hl with | [_], _ => rfl
  have F_size := fun_mk (st := s_size) l_size c_size k_size
  have b_size := F_size.binds (ps := ["sheet"]) fun _ _ _ _ _ _ us hl => match us, hl with | [_], _ => rfl
  have F_turn_row := fun_mk (st := s_turn_row) l_turn_row c_turn_row k_turn_row
  have b_turn_row := F_turn_row.binds (ps := ["sheet"]) fun _ _ _ _ _ _ us hl => match us, hl with | [_], _ => rfl
  have F_round_by := fun_mk (st := s_round_by) l_round_by c_round_by k_round_by
  have b_round_by := F_round_by.binds (ps := ["later", "square"]) fun _ _ _ _ _ _ us hl => match us, hl with | [_, _], _ => rfl
  have F_corners := fun_mk (st := s_corners) l_corners c_corners k_corners
  have b_corners := F_corners.binds (ps := ["sheet"]) fun _ _ _ _ _ _ us hl => match us, hl with | [_], _ => rfl
  have F_borders := fun_mk (st := s_borders) l_borders c_borders k_borders
  have b_borders := F_borders.binds (ps := ["sheet"]) fun _ _ _ _ _ _ us hl => match us, hl with | [_], _ => rfl
  have F_rows := fun_mk (st := s_rows) l_rows c_rows k_rows
  have b_rows := F_rows.binds (ps := ["sheet"]) fun _ _ _ _ _ _ us hl => match us, hl with | [_], _ => rfl
  have F_has_one := fun_mk (st := s_has_one) l_has_one c_has_one k_has_one
  have b_has_one := F_has_one.binds (ps := ["squares", "marks"]) fun _ _ _ _ _ _ us hl => match us, hl with | [_, _], _ => rfl
  have F_band_from := fun_mk (st := s_band_from) l_band_from c_band_from k_band_from
  have b_band_from := F_band_from.binds (ps := ["up", "row", "marks"]) fun _ _ _ _ _ _ us hl => match us, hl with | [_, _, _], _ => rfl
  have F_bands := fun_mk (st := s_bands) l_bands c_bands k_bands
  have b_bands := F_bands.binds (ps := ["sheet"]) fun _ _ _ _ _ _ us hl => match us, hl with | [_], _ => rfl
  have F_law_whole := fun_mk (st := s_law_whole) l_law_whole c_law_whole k_law_whole
  have b_law_whole := F_law_whole.binds (ps := ["_law_found"]) fun _ _ _ _ _ _ us hl => match us, hl with | [_], _ => rfl
  have F_law_gcd := fun_mk (st := s_law_gcd) l_law_gcd c_law_gcd k_law_gcd
  have b_law_gcd := F_law_gcd.binds (ps := ["_law_one", "_law_other"]) fun _ _ _ _ _ _ us hl => match us, hl with | [_, _], _ => rfl
  have F_check_word := fun_mk (st := s_check_word) l_check_word c_check_word k_check_word
  have b_check_word := F_check_word.binds (ps := ["word"]) fun _ _ _ _ _ _ us hl => match us, hl with | [_], _ => rfl
  have F_sheared := fun_mk (st := s_sheared) l_sheared c_sheared k_sheared
  have b_sheared := F_sheared.binds (ps := ["sheet"]) fun _ _ _ _ _ _ us hl => match us, hl with | [_], _ => rfl
  have F_turned := fun_mk (st := s_turned) l_turned c_turned k_turned
  have b_turned := F_turned.binds (ps := ["sheet"]) fun _ _ _ _ _ _ us hl => match us, hl with | [_], _ => rfl
  have F_moved := fun_mk (st := s_moved) l_moved c_moved k_moved
  have b_moved := F_moved.binds (ps := ["sheet", "word"]) fun _ _ _ _ _ _ us hl => match us, hl with | [_, _], _ => rfl
  have F_law_leading := fun_mk (st := s_law_leading) l_law_leading c_law_leading k_law_leading
  have b_law_leading := F_law_leading.binds (ps := ["_law_one", "_law_other", "_law_first"]) fun _ _ _ _ _ _ us hl => match us, hl with | [_, _, _], _ => rfl
  have F_law_same := fun_mk (st := s_law_same) l_law_same c_law_same k_law_same
  have b_law_same := F_law_same.binds (ps := ["_law_one", "_law_other"]) fun _ _ _ _ _ _ us hl => match us, hl with | [_, _], _ => rfl
  have F_law := fun_mk (st := s_law) l_law c_law k_law
  have T : Tx K mg ⟨f_law_cell_at, PySem.W.fnOf "_law_cell_at" "_law_cell_at" (defArgs s_law_cell_at) (defBody s_law_cell_at) (defScope s_law_cell_at) .none kV_law_cell_at dc_law_cell_at pm_law_cell_at an_law_cell_at cd_law_cell_at ct_law_cell_at, f_law_together, PySem.W.fnOf "_law_together" "_law_together" (defArgs s_law_together) (defBody s_law_together) (defScope s_law_together) .none kV_law_together dc_law_together pm_law_together an_law_together cd_law_together ct_law_together, f_law_row_by, PySem.W.fnOf "_law_row_by" "_law_row_by" (defArgs s_law_row_by) (defBody s_law_row_by) (defScope s_law_row_by) .none kV_law_row_by dc_law_row_by pm_law_row_by an_law_row_by cd_law_row_by ct_law_row_by, f_law_sheet_by, PySem.W.fnOf "_law_sheet_by" "_law_sheet_by" (defArgs s_law_sheet_by) (defBody s_law_sheet_by) (defScope s_law_sheet_by) .none kV_law_sheet_by dc_law_sheet_by pm_law_sheet_by an_law_sheet_by cd_law_sheet_by ct_law_sheet_by, f_law_row, PySem.W.fnOf "_law_row" "_law_row" (defArgs s_law_row) (defBody s_law_row) (defScope s_law_row) .none kV_law_row dc_law_row pm_law_row an_law_row cd_law_row ct_law_row, f_law_spread, PySem.W.fnOf "_law_spread" "_law_spread" (defArgs s_law_spread) (defBody s_law_spread) (defScope s_law_spread) .none kV_law_spread dc_law_spread pm_law_spread an_law_spread cd_law_spread ct_law_spread, f_law_sheet, PySem.W.fnOf "_law_sheet" "_law_sheet" (defArgs s_law_sheet) (defBody s_law_sheet) (defScope s_law_sheet) .none kV_law_sheet dc_law_sheet pm_law_sheet an_law_sheet cd_law_sheet ct_law_sheet, f_law_rows_alike, PySem.W.fnOf "_law_rows_alike" "_law_rows_alike" (defArgs s_law_rows_alike) (defBody s_law_rows_alike) (defScope s_law_rows_alike) .none kV_law_rows_alike dc_law_rows_alike pm_law_rows_alike an_law_rows_alike cd_law_rows_alike ct_law_rows_alike, f_back_row, PySem.W.fnOf "back_row" "back_row" (defArgs s_back_row) (defBody s_back_row) (defScope s_back_row) .none kV_back_row dc_back_row pm_back_row an_back_row cd_back_row ct_back_row, f_size, PySem.W.fnOf "size" "size" (defArgs s_size) (defBody s_size) (defScope s_size) .none kV_size dc_size pm_size an_size cd_size ct_size, f_turn_row, PySem.W.fnOf "turn_row" "turn_row" (defArgs s_turn_row) (defBody s_turn_row) (defScope s_turn_row) .none kV_turn_row dc_turn_row pm_turn_row an_turn_row cd_turn_row ct_turn_row, f_round_by, PySem.W.fnOf "round_by" "round_by" (defArgs s_round_by) (defBody s_round_by) (defScope s_round_by) .none kV_round_by dc_round_by pm_round_by an_round_by cd_round_by ct_round_by, f_corners, PySem.W.fnOf "corners" "corners" (defArgs s_corners) (defBody s_corners) (defScope s_corners) .none kV_corners dc_corners pm_corners an_corners cd_corners ct_corners, f_borders, PySem.W.fnOf "borders" "borders" (defArgs s_borders) (defBody s_borders) (defScope s_borders) .none kV_borders dc_borders pm_borders an_borders cd_borders ct_borders, f_rows, PySem.W.fnOf "rows" "rows" (defArgs s_rows) (defBody s_rows) (defScope s_rows) .none kV_rows dc_rows pm_rows an_rows cd_rows ct_rows, f_has_one, PySem.W.fnOf "has_one" "has_one" (defArgs s_has_one) (defBody s_has_one) (defScope s_has_one) .none kV_has_one dc_has_one pm_has_one an_has_one cd_has_one ct_has_one, f_band_from, PySem.W.fnOf "band_from" "band_from" (defArgs s_band_from) (defBody s_band_from) (defScope s_band_from) .none kV_band_from dc_band_from pm_band_from an_band_from cd_band_from ct_band_from, f_bands, PySem.W.fnOf "bands" "bands" (defArgs s_bands) (defBody s_bands) (defScope s_bands) .none kV_bands dc_bands pm_bands an_bands cd_bands ct_bands, f_law_whole, PySem.W.fnOf "_law_whole" "_law_whole" (defArgs s_law_whole) (defBody s_law_whole) (defScope s_law_whole) .none kV_law_whole dc_law_whole pm_law_whole an_law_whole cd_law_whole ct_law_whole, f_law_gcd, PySem.W.fnOf "_law_gcd" "_law_gcd" (defArgs s_law_gcd) (defBody s_law_gcd) (defScope s_law_gcd) .none kV_law_gcd dc_law_gcd pm_law_gcd an_law_gcd cd_law_gcd ct_law_gcd, f_check_word, PySem.W.fnOf "check_word" "check_word" (defArgs s_check_word) (defBody s_check_word) (defScope s_check_word) .none kV_check_word dc_check_word pm_check_word an_check_word cd_check_word ct_check_word, f_sheared, PySem.W.fnOf "sheared" "sheared" (defArgs s_sheared) (defBody s_sheared) (defScope s_sheared) .none kV_sheared dc_sheared pm_sheared an_sheared cd_sheared ct_sheared, f_turned, PySem.W.fnOf "turned" "turned" (defArgs s_turned) (defBody s_turned) (defScope s_turned) .none kV_turned dc_turned pm_turned an_turned cd_turned ct_turned, f_moved, PySem.W.fnOf "moved" "moved" (defArgs s_moved) (defBody s_moved) (defScope s_moved) .none kV_moved dc_moved pm_moved an_moved cd_moved ct_moved, f_law_leading, PySem.W.fnOf "_law_leading" "_law_leading" (defArgs s_law_leading) (defBody s_law_leading) (defScope s_law_leading) .none kV_law_leading dc_law_leading pm_law_leading an_law_leading cd_law_leading ct_law_leading, f_law_same, PySem.W.fnOf "_law_same" "_law_same" (defArgs s_law_same) (defBody s_law_same) (defScope s_law_same) .none kV_law_same dc_law_same pm_law_same an_law_same cd_law_same ct_law_same, fa, PySem.W.fnOf "law" "law" (defArgs s_law) (defBody s_law) (defScope s_law) .none kV_law dc_law pm_law an_law cd_law ct_law⟩ := ⟨F_law_cell_at, b_law_cell_at, PySem.W.mg_of X G a_law_cell_at, F_law_together, b_law_together, PySem.W.mg_of X G a_law_together, F_law_row_by, b_law_row_by, PySem.W.mg_of X G a_law_row_by, F_law_sheet_by, b_law_sheet_by, PySem.W.mg_of X G a_law_sheet_by, F_law_row, b_law_row, PySem.W.mg_of X G a_law_row, F_law_spread, b_law_spread, PySem.W.mg_of X G a_law_spread, F_law_sheet, b_law_sheet, PySem.W.mg_of X G a_law_sheet, F_law_rows_alike, b_law_rows_alike, PySem.W.mg_of X G a_law_rows_alike, F_back_row, b_back_row, PySem.W.mg_of X G a_back_row, F_size, b_size, PySem.W.mg_of X G a_size, F_turn_row, b_turn_row, PySem.W.mg_of X G a_turn_row, F_round_by, b_round_by, PySem.W.mg_of X G a_round_by, F_corners, b_corners, PySem.W.mg_of X G a_corners, F_borders, b_borders, PySem.W.mg_of X G a_borders, F_rows, b_rows, PySem.W.mg_of X G a_rows, F_has_one, b_has_one, PySem.W.mg_of X G a_has_one, F_band_from, b_band_from, PySem.W.mg_of X G a_band_from, F_bands, b_bands, PySem.W.mg_of X G a_bands, F_law_whole, b_law_whole, PySem.W.mg_of X G a_law_whole, F_law_gcd, b_law_gcd, PySem.W.mg_of X G a_law_gcd, F_check_word, b_check_word, PySem.W.mg_of X G a_check_word, F_sheared, b_sheared, PySem.W.mg_of X G a_sheared, F_turned, b_turned, PySem.W.mg_of X G a_turned, F_moved, b_moved, PySem.W.mg_of X G a_moved, F_law_leading, b_law_leading, PySem.W.mg_of X G a_law_leading, F_law_same, b_law_same, PySem.W.mg_of X G a_law_same, F_law, PySem.W.mg_none_of X G z_len, PySem.W.mg_none_of X G z_sorted, PySem.W.mg_none_of X G z_tuple, PySem.W.mg_none_of X G z_list, PySem.W.mg_none_of X G z_range, PySem.W.mg_none_of X G z_enumerate, PySem.W.mg_none_of X G z_any, PySem.W.mg_none_of X G z_isinstance, PySem.W.mg_none_of X G z_int, PySem.W.mg_none_of X G z_bool, PySem.W.mg_none_of X G z_abs, PySem.W.mg_none_of X G z_zip, PySem.W.mg_none_of X G z_set, ⟨_, PySem.W.mg_of X G g_MOST_LETTERS⟩⟩
  exact ⟨_, fun s v => .of_eq rfl, fun base _ _ => (ok_law T).imp (lawSp_imp law_true)⟩
end Lw
open PySem PySem.W PyProof.Rows
set_option maxHeartbeats 0 in
theorem PySem.Challenge.cw_squaresheet_k65_whole_twists_come_round_holds : PySem.Challenge.rw_squaresheet_k65_whole_twists_come_round.Holds := by
  w_on; o_law; k_head; (case hw => w_witness2)
  k_fill
  refine L2.walk_of (l := PySem.Challenge.rw_squaresheet_k65_whole_twists_come_round) (n := 63) (k := 6) (x := "_law_script") (CX := fun w => L2.CX PySem.Challenge.rw_squaresheet_k65_whole_twists_come_round.prog w) (sp := fun w => Sq.lawSp _) rfl (by decide) rfl ⟨rfl, by decide, by decide⟩ (fun w h Y => PySem.W.kIn_of Y) ?F (fun _ H a ns hl _ hS => Sq.law_sp H a ns hl hS) (fun _ _ _ _ _ h => Sq.cx_none h)
  case F =>
    intro w mg fa h KX G hmg
    refine' Lw.all_mk KX G hmg ?a_law_cell_at ?l_law_cell_at ?c_law_cell_at ?k_law_cell_at ?a_law_together ?l_law_together ?c_law_together ?k_law_together ?a_law_row_by ?l_law_row_by ?c_law_row_by ?k_law_row_by ?a_law_sheet_by ?l_law_sheet_by ?c_law_sheet_by ?k_law_sheet_by ?a_law_row ?l_law_row ?c_law_row ?k_law_row ?a_law_spread ?l_law_spread ?c_law_spread ?k_law_spread ?a_law_sheet ?l_law_sheet ?c_law_sheet ?k_law_sheet ?a_law_rows_alike ?l_law_rows_alike ?c_law_rows_alike ?k_law_rows_alike ?a_back_row ?l_back_row ?c_back_row ?k_back_row ?a_size ?l_size ?c_size ?k_size ?a_turn_row ?l_turn_row ?c_turn_row ?k_turn_row ?a_round_by ?l_round_by ?c_round_by ?k_round_by ?a_corners ?l_corners ?c_corners ?k_corners ?a_borders ?l_borders ?c_borders ?k_borders ?a_rows ?l_rows ?c_rows ?k_rows ?a_has_one ?l_has_one ?c_has_one ?k_has_one ?a_band_from ?l_band_from ?c_band_from ?k_band_from ?a_bands ?l_bands ?c_bands ?k_bands ?a_law_whole ?l_law_whole ?c_law_whole ?k_law_whole ?a_law_gcd ?l_law_gcd ?c_law_gcd ?k_law_gcd ?a_check_word ?l_check_word ?c_check_word ?k_check_word ?a_sheared ?l_sheared ?c_sheared ?k_sheared ?a_turned ?l_turned ?c_turned ?k_turned ?a_moved ?l_moved ?c_moved ?k_moved ?a_law_leading ?l_law_leading ?c_law_leading ?k_law_leading ?a_law_same ?l_law_same ?c_law_same ?k_law_same ?a_law ?l_law ?c_law ?k_law ?z_len ?z_sorted ?z_tuple ?z_list ?z_range ?z_enumerate ?z_any ?z_isinstance ?z_int ?z_bool ?z_abs ?z_zip ?z_set ?g_MOST_LETTERS
    (case a_law_cell_at => k_is)
    (case l_law_cell_at => k_is)
    (case c_law_cell_at => k_is)
    (case k_law_cell_at => k_is)
    (case a_law_together => k_is)
    (case l_law_together => k_is)
    (case c_law_together => k_is)
    (case k_law_together => k_is)
    (case a_law_row_by => k_is)
    (case l_law_row_by => k_is)
    (case c_law_row_by => k_is)
    (case k_law_row_by => k_is)
    (case a_law_sheet_by => k_is)
    (case l_law_sheet_by => k_is)
    (case c_law_sheet_by => k_is)
    (case k_law_sheet_by => k_is)
    (case a_law_row => k_is)
    (case l_law_row => k_is)
    (case c_law_row => k_is)
    (case k_law_row => k_is)
    (case a_law_spread => k_is)
    (case l_law_spread => k_is)
    (case c_law_spread => k_is)
    (case k_law_spread => k_is)
    (case a_law_sheet => k_is)
    (case l_law_sheet => k_is)
    (case c_law_sheet => k_is)
    (case k_law_sheet => k_is)
    (case a_law_rows_alike => k_is)
    (case l_law_rows_alike => k_is)
    (case c_law_rows_alike => k_is)
    (case k_law_rows_alike => k_is)
    (case a_back_row => k_is)
    (case l_back_row => k_is)
    (case c_back_row => k_is)
    (case k_back_row => k_is)
    (case a_size => k_is)
    (case l_size => k_is)
    (case c_size => k_is)
    (case k_size => k_is)
    (case a_turn_row => k_is)
    (case l_turn_row => k_is)
    (case c_turn_row => k_is)
    (case k_turn_row => k_is)
    (case a_round_by => k_is)
    (case l_round_by => k_is)
    (case c_round_by => k_is)
    (case k_round_by => k_is)
    (case a_corners => k_is)
    (case l_corners => k_is)
    (case c_corners => k_is)
    (case k_corners => k_is)
    (case a_borders => k_is)
    (case l_borders => k_is)
    (case c_borders => k_is)
    (case k_borders => k_is)
    (case a_rows => k_is)
    (case l_rows => k_is)
    (case c_rows => k_is)
    (case k_rows => k_is)
    (case a_has_one => k_is)
    (case l_has_one => k_is)
    (case c_has_one => k_is)
    (case k_has_one => k_is)
    (case a_band_from => k_is)
    (case l_band_from => k_is)
    (case c_band_from => k_is)
    (case k_band_from => k_is)
    (case a_bands => k_is)
    (case l_bands => k_is)
    (case c_bands => k_is)
    (case k_bands => k_is)
    (case a_law_whole => k_is)
    (case l_law_whole => k_is)
    (case c_law_whole => k_is)
    (case k_law_whole => k_is)
    (case a_law_gcd => k_is)
    (case l_law_gcd => k_is)
    (case c_law_gcd => k_is)
    (case k_law_gcd => k_is)
    (case a_check_word => k_is)
    (case l_check_word => k_is)
    (case c_check_word => k_is)
    (case k_check_word => k_is)
    (case a_sheared => k_is)
    (case l_sheared => k_is)
    (case c_sheared => k_is)
    (case k_sheared => k_is)
    (case a_turned => k_is)
    (case l_turned => k_is)
    (case c_turned => k_is)
    (case k_turned => k_is)
    (case a_moved => k_is)
    (case l_moved => k_is)
    (case c_moved => k_is)
    (case k_moved => k_is)
    (case a_law_leading => k_is)
    (case l_law_leading => k_is)
    (case c_law_leading => k_is)
    (case k_law_leading => k_is)
    (case a_law_same => k_is)
    (case l_law_same => k_is)
    (case c_law_same => k_is)
    (case k_law_same => k_is)
    (case a_law => k_is)
    (case l_law => k_is)
    (case c_law => k_is)
    (case k_law => k_is)
    (case z_len => k_is)
    (case z_sorted => k_is)
    (case z_tuple => k_is)
    (case z_list => k_is)
    (case z_range => k_is)
    (case z_enumerate => k_is)
    (case z_any => k_is)
    (case z_isinstance => k_is)
    (case z_int => k_is)
    (case z_bool => k_is)
    (case z_abs => k_is)
    (case z_zip => k_is)
    (case z_set => k_is)
    (case g_MOST_LETTERS => k_is)

