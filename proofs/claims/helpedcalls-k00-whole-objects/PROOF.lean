import PyProof.Rows.All
import Wide.All
import OpenK.AllK
import Wide.FinOn
import KE.SortData
import HandS.ForMost
import HandS.Exc
import HandS.ExcOwn
import HandS.TryMany
import HandS.IsInst
import HandS.Deep
import HandS.Star
import HandS.Style
import HandS.TupAny
import HandS.TupLe
import HandS.Defaults
import HandS.Lambda
import PySem.Challenge.RW_helpedcalls_k00_whole_objects
import HandS.CallLocal
import KE.KStateDown
import Lean
import HandS.Head0
import HandS.Head1
import HandS.Head2
import HandS.HeadEnd
import HandS.HeadHook1
import HandS.HeadHook2
import HandS.HeadHook3
import HandS.HeadHook4
import HandS.HeadWalk
/-! Part Data. -/
set_option Elab.async false
set_option linter.all false
set_option autoImplicit false
set_option maxRecDepth 100000
set_option maxHeartbeats 4000000
/-! Values as plain data. Fz: data that stands in tuples alone (nothing that may change); Dq: lists too, but none of the changing ones. -/
namespace K00
open PySem PySem.Spec PyProof.Rows L2

mutual
inductive Fz (H : Hp) : V → PyData → Prop
  | non : Fz H .non .none
  | bl (b : Bool) : Fz H (.bl b) (.bool b)
  | int (i : Int) : Fz H (.int i) (.int i)
  | str (x : Str) : Fz H (.str x) (.str x)
  | tup {a : Addr} {xs : List V} {ds : List PyData} (h : H a = some (.tup xs)) (all : FzAll H xs ds) : Fz H (.ref a) (.tuple ds)
inductive FzAll (H : Hp) : List V → List PyData → Prop
  | nil : FzAll H [] []
  | cons {v : V} {vs : List V} {d : PyData} {ds : List PyData} (h : Fz H v d) (t : FzAll H vs ds) : FzAll H (v :: vs) (d :: ds)
end
mutual
inductive Dq (R : Addr → Prop) (H : Hp) : V → PyData → Prop
  | non : Dq R H .non .none
  | bl (b : Bool) : Dq R H (.bl b) (.bool b)
  | int (i : Int) : Dq R H (.int i) (.int i)
  | str (x : Str) : Dq R H (.str x) (.str x)
  | tup {a : Addr} {xs : List V} {ds : List PyData} (h : H a = some (.tup xs)) (all : DqAll R H xs ds) : Dq R H (.ref a) (.tuple ds)
  | lst {a : Addr} {xs : List V} {ds : List PyData} (h : H a = some (.lst xs)) (n : ¬ R a) (all : DqAll R H xs ds) : Dq R H (.ref a) (.list ds)
inductive DqAll (R : Addr → Prop) (H : Hp) : List V → List PyData → Prop
  | nil : DqAll R H [] []
  | cons {v : V} {vs : List V} {d : PyData} {ds : List PyData} (h : Dq R H v d) (t : DqAll R H vs ds) : DqAll R H (v :: vs) (d :: ds)
end
/-- tuples stay, and all that is not at R -/
def Kp (R : Addr → Prop) (H H' : Hp) : Prop := ∀ a o, H a = some o → ((¬ R a ∧ ∃ xs, o = .lst xs) ∨ ∃ xs, o = .tup xs) → H' a = some o
theorem Kp.lst {R : Addr → Prop} {H H' : Hp} (k : Kp R H H') {a : Addr} {xs : List V} (h : H a = some (.lst xs)) (n : ¬ R a) : H' a = some (.lst xs) := k a _ h (.inl ⟨n, xs, rfl⟩)
section
variable {R R' : Addr → Prop} {H H' H1 : Hp} {v : V} {vs : List V} {d : PyData} {ds : List PyData}
theorem Kp.refl : Kp R H H := fun _ _ h _ => h
theorem Kp.trans (a : Kp R H H1) (b : Kp R H1 H') : Kp R H H' := fun x o h c => b x o (a x o h c) c
theorem Kp.of_same (e : Same H H') : Kp R H H' := fun a o h _ => e a o h
theorem Kp.tups (k : Kp R H H') : ∀ a xs, H a = some (.tup xs) → H' a = some (.tup xs) := fun a xs h => k a _ h (.inr ⟨xs, rfl⟩)
mutual
theorem Fz.keep (k : ∀ a xs, H a = some (.tup xs) → H' a = some (.tup xs)) : ∀ (d : PyData) (v : V), Fz H v d → Fz H' v d
  | .none, _, h => by cases h; exact .non
  | .bool b, _, h => by cases h; exact .bl b
  | .int i, _, h => by cases h; exact .int i
  | .str x, _, h => by cases h; exact .str x
  | .tuple ds, _, h => by
    cases h with
    | tup h0 all => exact .tup (k _ _ h0) (FzAll.keep k ds _ all)
  | .list _, _, h => by cases h
  | .dict _, _, h => by cases h
theorem FzAll.keep (k : ∀ a xs, H a = some (.tup xs) → H' a = some (.tup xs)) : ∀ (ds : List PyData) (vs : List V), FzAll H vs ds → FzAll H' vs ds
  | [], _, h => by cases h; exact .nil
  | d :: ds, _, h => by
    cases h with
    | cons h0 t => exact .cons (Fz.keep k d _ h0) (FzAll.keep k ds _ t)
end
mutual
theorem Dq.keep (k : Kp R H H') : ∀ (d : PyData) (v : V), Dq R H v d → Dq R H' v d
  | .none, _, h => by cases h; exact .non
  | .bool b, _, h => by cases h; exact .bl b
  | .int i, _, h => by cases h; exact .int i
  | .str x, _, h => by cases h; exact .str x
  | .tuple ds, _, h => by
    cases h with
    | tup h0 all => exact .tup (k _ _ h0 (.inr ⟨_, rfl⟩)) (DqAll.keep k ds _ all)
  | .list ds, _, h => by
    cases h with
    | lst h0 n all => exact .lst (k.lst h0 n) n (DqAll.keep k ds _ all)
  | .dict _, _, h => by cases h
theorem DqAll.keep (k : Kp R H H') : ∀ (ds : List PyData) (vs : List V), DqAll R H vs ds → DqAll R H' vs ds
  | [], _, h => by cases h; exact .nil
  | d :: ds, _, h => by
    cases h with
    | cons h0 t => exact .cons (Dq.keep k d _ h0) (DqAll.keep k ds _ t)
end
mutual
theorem Fz.dq : ∀ (d : PyData) (v : V), Fz H v d → Dq R H v d
  | .none, _, h => by cases h; exact .non
  | .bool b, _, h => by cases h; exact .bl b
  | .int i, _, h => by cases h; exact .int i
  | .str x, _, h => by cases h; exact .str x
  | .tuple ds, _, h => by
    cases h with
    | tup h0 all => exact .tup h0 (FzAll.dq ds _ all)
  | .list _, _, h => by cases h
  | .dict _, _, h => by cases h
theorem FzAll.dq : ∀ (ds : List PyData) (vs : List V), FzAll H vs ds → DqAll R H vs ds
  | [], _, h => by cases h; exact .nil
  | d :: ds, _, h => by
    cases h with
    | cons h0 t => exact .cons (Fz.dq d _ h0) (FzAll.dq ds _ t)
end
mutual
theorem Dq.mono (r : ∀ a, R' a → R a) : ∀ (d : PyData) (v : V), Dq R H v d → Dq R' H v d
  | .none, _, h => by cases h; exact .non
  | .bool b, _, h => by cases h; exact .bl b
  | .int i, _, h => by cases h; exact .int i
  | .str x, _, h => by cases h; exact .str x
  | .tuple ds, _, h => by
    cases h with
    | tup h0 all => exact .tup h0 (DqAll.mono r ds _ all)
  | .list ds, _, h => by
    cases h with
    | lst h0 n all => exact .lst h0 (fun z => n (r _ z)) (DqAll.mono r ds _ all)
  | .dict _, _, h => by cases h
theorem DqAll.mono (r : ∀ a, R' a → R a) : ∀ (ds : List PyData) (vs : List V), DqAll R H vs ds → DqAll R' H vs ds
  | [], _, h => by cases h; exact .nil
  | d :: ds, _, h => by
    cases h with
    | cons h0 t => exact .cons (Dq.mono r d _ h0) (DqAll.mono r ds _ t)
end
mutual
theorem Dq.dp {K : PySem.W.Frag} : ∀ (d : PyData) (v : V), Dq R H v d → Dp K H v d
  | .none, _, h => by cases h; exact .non
  | .bool b, _, h => by cases h; exact .bl b
  | .int i, _, h => by cases h; exact .int i
  | .str x, _, h => by cases h; exact .str x
  | .tuple ds, _, h => by
    cases h with
    | tup h0 all => exact .tup (SqT.of h0) (DqAll.dp ds _ all)
  | .list ds, _, h => by
    cases h with
    | lst h0 n all => exact .lst (SqL.of h0) (DqAll.dp ds _ all)
  | .dict _, _, h => by cases h
theorem DqAll.dp {K : PySem.W.Frag} : ∀ (ds : List PyData) (vs : List V), DqAll R H vs ds → DpAll K H vs ds
  | [], _, h => by cases h; exact .nil
  | d :: ds, _, h => by
    cases h with
    | cons h0 t => exact .cons (Dq.dp d _ h0) (DqAll.dp ds _ t)
end
theorem Fz.to (h : Fz H v d) (k : Kp R H H') : Fz H' v d := Fz.keep k.tups d v h
theorem FzAll.to (h : FzAll H vs ds) (k : Kp R H H') : FzAll H' vs ds := FzAll.keep k.tups ds vs h
theorem Fz.same (h : Fz H v d) (e : Same H H') : Fz H' v d := Fz.keep (fun a xs q => e a _ q) d v h
theorem FzAll.same (h : FzAll H vs ds) (e : Same H H') : FzAll H' vs ds := FzAll.keep (fun a xs q => e a _ q) ds vs h
theorem FzAll.length : ∀ {vs : List V} {ds : List PyData}, FzAll H vs ds → vs.length = ds.length
  | _, _, .nil => rfl
  | _, _, .cons _ t => congrArg (· + 1) (FzAll.length t)
theorem DqAll.length : ∀ {vs : List V} {ds : List PyData}, DqAll R H vs ds → vs.length = ds.length
  | _, _, .nil => rfl
  | _, _, .cons _ t => congrArg (· + 1) (DqAll.length t)
theorem FzAll.get : ∀ {vs : List V} {ds : List PyData} {i : Nat} {d : PyData}, FzAll H vs ds → ds[i]? = some d → ∃ v, vs[i]? = some v ∧ Fz H v d
  | _, _, _, _, .nil, e => by simp at e
  | _, _, 0, _, .cons h _, e => by simp at e; subst e; exact ⟨_, rfl, h⟩
  | _, _, i + 1, d, .cons _ t, e => by
    obtain ⟨v, h1, h2⟩ := FzAll.get (i := i) (d := d) t (by simpa using e)
    exact ⟨v, by simpa using h1, h2⟩
theorem DqAll.get : ∀ {vs : List V} {ds : List PyData} {i : Nat} {d : PyData}, DqAll R H vs ds → ds[i]? = some d → ∃ v, vs[i]? = some v ∧ Dq R H v d
  | _, _, _, _, .nil, e => by simp at e
  | _, _, 0, _, .cons h _, e => by simp at e; subst e; exact ⟨_, rfl, h⟩
  | _, _, i + 1, d, .cons _ t, e => by
    obtain ⟨v, h1, h2⟩ := DqAll.get (i := i) (d := d) t (by simpa using e)
    exact ⟨v, by simpa using h1, h2⟩
theorem FzAll.at : ∀ {vs : List V} {ds : List PyData} {i : Nat} {v : V}, FzAll H vs ds → vs[i]? = some v → ∃ d, ds[i]? = some d ∧ Fz H v d
  | _, _, _, _, .nil, e => by simp at e
  | _, _, 0, _, .cons h _, e => by simp at e; subst e; exact ⟨_, rfl, h⟩
  | _, _, i + 1, v, .cons _ t, e => by
    obtain ⟨d, h1, h2⟩ := FzAll.at (i := i) (v := v) t (by simpa using e)
    exact ⟨d, by simpa using h1, h2⟩
theorem DqAll.at : ∀ {vs : List V} {ds : List PyData} {i : Nat} {v : V}, DqAll R H vs ds → vs[i]? = some v → ∃ d, ds[i]? = some d ∧ Dq R H v d
  | _, _, _, _, .nil, e => by simp at e
  | _, _, 0, _, .cons h _, e => by simp at e; subst e; exact ⟨_, rfl, h⟩
  | _, _, i + 1, v, .cons _ t, e => by
    obtain ⟨d, h1, h2⟩ := DqAll.at (i := i) (v := v) t (by simpa using e)
    exact ⟨d, by simpa using h1, h2⟩
theorem FzAll.append : ∀ {vs ws : List V} {ds es : List PyData}, FzAll H vs ds → FzAll H ws es → FzAll H (vs ++ ws) (ds ++ es)
  | _, _, _, _, .nil, s => s
  | _, _, _, _, .cons h t, s => .cons h (FzAll.append t s)
theorem DqAll.append : ∀ {vs ws : List V} {ds es : List PyData}, DqAll R H vs ds → DqAll R H ws es → DqAll R H (vs ++ ws) (ds ++ es)
  | _, _, _, _, .nil, s => s
  | _, _, _, _, .cons h t, s => .cons h (DqAll.append t s)
theorem FzAll.take : ∀ (n : Nat) {vs : List V} {ds : List PyData}, FzAll H vs ds → FzAll H (vs.take n) (ds.take n)
  | 0, _, _, _ => .nil
  | _ + 1, _, _, .nil => .nil
  | n + 1, _, _, .cons h t => .cons h (FzAll.take n t)
theorem FzAll.drop : ∀ (n : Nat) {vs : List V} {ds : List PyData}, FzAll H vs ds → FzAll H (vs.drop n) (ds.drop n)
  | 0, _, _, h => h
  | _ + 1, _, _, .nil => .nil
  | n + 1, _, _, .cons _ t => FzAll.drop n t
theorem FzAll.set : ∀ (n : Nat) {vs : List V} {ds : List PyData} {v : V} {d : PyData}, FzAll H vs ds → Fz H v d → FzAll H (vs.set n v) (ds.set n d)
  | _, _, _, _, _, .nil, _ => .nil
  | 0, _, _, _, _, .cons _ t, h => .cons h t
  | n + 1, _, _, _, _, .cons h0 t, h => .cons h0 (FzAll.set n t h)
theorem FzAll.ints : ∀ {vs : List V} {ns : List Int}, FzAll H vs (ns.map .int) → vs = ns.map V.int
  | _, [], .nil => rfl
  | _, _ :: _, .cons h t => by
    cases h
    rw [FzAll.ints t]
    rfl
theorem FzAll.strs : ∀ {vs : List V} {ns : List Str}, FzAll H vs (ns.map .str) → vs = ns.map V.str
  | _, [], .nil => rfl
  | _, _ :: _, .cons h t => by
    cases h
    rw [FzAll.strs t]
    rfl
theorem FzAll.of_ints : ∀ (ns : List Int), FzAll H (ns.map V.int) (ns.map .int)
  | [] => .nil
  | n :: ns => .cons (.int n) (FzAll.of_ints ns)
theorem FzAll.of_strs : ∀ (ns : List Str), FzAll H (ns.map V.str) (ns.map .str)
  | [] => .nil
  | n :: ns => .cons (.str n) (FzAll.of_strs ns)
theorem FzAll.bls : ∀ {vs : List V} {bs : List Bool}, FzAll H vs (bs.map .bool) → vs = bs.map V.bl
  | _, [], .nil => rfl
  | _, _ :: _, .cons h t => by
    cases h
    rw [FzAll.bls t]
    rfl
end

/-! ### the world of a run: what may change (R), what always holds of the heap (J) -/
structure Wd where
  R : Addr → Prop
  J : Hp → Prop
  /-- what else stays -/
  kx : Hp → Hp → Prop
  /-- no list or tuple yet -/
  fr : Hp → Addr → Prop
  st : ∀ {H H' : Hp}, J H → Same H H' → J H'
  kxr : ∀ {H : Hp}, kx H H
  kxt : ∀ {H H1 H2 : Hp}, kx H H1 → kx H1 H2 → kx H H2
  kxs : ∀ {H H' : Hp}, Same H H' → kx H H'
  frn : ∀ {H : Hp} {p : Addr}, J H → H p = none → fr H p
  frb : ∀ {H H' : Hp} {p : Addr}, Kp R H H' → kx H H' → fr H' p → fr H p
  frR : ∀ {H : Hp} {p : Addr}, fr H p → ¬ R p
  frl : ∀ {H : Hp} {p : Addr} {xs : List V}, fr H p → H p = some (.lst xs) → False
  frt : ∀ {H : Hp} {p : Addr} {xs : List V}, fr H p → H p = some (.tup xs) → False
  frk : ∀ {H H' : Hp} {p : Addr} {xs ys : List V}, fr H p → kx H H' → H' p = some (.lst xs) → kx H (upd H' p (.lst ys))
  wr : ∀ {H1 H : Hp} {p : Addr} {xs ys : List V}, fr H1 p → J H → H p = some (.lst xs) → J (upd H p (.lst ys))
theorem upd_sm {H H' : Hp} {p : Addr} {o : HO} (h : H p = none) (e : Same H H') : Same H (upd H' p o) := fun a u q => by
  rw [upd_ne (ne_of_none q h)]
  exact e a u q
/-- nothing changes -/
def W0 : Wd where
  R := fun _ => False
  J := fun _ => True
  kx := Same
  fr := fun H p => H p = none
  st := fun _ _ => trivial
  kxr := fun _ _ h => h
  kxt := fun a b x o h => b x o (a x o h)
  kxs := fun e => e
  frn := fun _ h => h
  frb := fun {H H' p} _ e h => by
    cases q : H p with
    | none => rfl
    | some o =>
      have := e p o q
      rw [h] at this
      cases this
  frR := fun _ z => z
  frl := fun h e => by rw [h] at e; cases e
  frt := fun h e => by rw [h] at e; cases e
  frk := fun h e _ => upd_sm h e
  wr := fun _ _ _ => trivial
structure Nx (W : Wd) (H H' : Hp) : Prop where
  kp : Kp W.R H H'
  j : W.J H'
  kx : W.kx H H'
section
variable {W : Wd} {H H1 H2 H' : Hp}
theorem Nx.refl (j : W.J H) : Nx W H H := ⟨Kp.refl, j, W.kxr⟩
theorem Nx.trans (a : Nx W H H1) (b : Nx W H1 H2) : Nx W H H2 := ⟨a.1.trans b.1, b.2, W.kxt a.3 b.3⟩
theorem Nx.of_same (j : W.J H) (e : Same H H') : Nx W H H' := ⟨Kp.of_same e, W.st j e, W.kxs e⟩
theorem same_new {p : Addr} (h : H p = none) (o : HO) : Same H (upd H p o) := fun b u q => by rw [upd_ne (ne_of_none q h)]; exact q
theorem Nx.new (j : W.J H) {p : Addr} (h : H p = none) (o : HO) : Nx W H (upd H p o) := .of_same j (same_new h o)
theorem Nx.freshF (n : Nx W H H') {p : Addr} (h : W.fr H' p) : W.fr H p := W.frb n.1 n.3 h
theorem Nx.fresh (n : Nx W H H') {p : Addr} (h : H' p = none) : W.fr H p := n.freshF (W.frn n.2 h)
theorem Wd.nr (W : Wd) (j : W.J H) {p : Addr} (h : H p = none) : ¬ W.R p := W.frR (W.frn j h)
/-- a list that was none at the start changes -/
theorem Nx.upd {p : Addr} {xs ys : List V} (n : Nx W H H') (f : W.fr H p) (h : H' p = some (.lst xs)) : Nx W H (upd H' p (.lst ys)) := by
  refine ⟨fun a u z c => ?_, W.wr f n.2 h, W.frk f n.3 h⟩
  have ne : a ≠ p := fun e => by
    subst e
    rcases c with ⟨_, xs, rfl⟩ | ⟨xs, rfl⟩
    · exact W.frl f z
    · exact W.frt f z
  rw [upd_ne ne]
  exact n.1 a u z c
end

/-! ### results, slots -/
inductive AR where
  /-- frozen data -/
  | f (d : PyData)
  /-- a new list of frozen data -/
  | l (ds : List PyData)
  /-- a list of frozen data -/
  | g (ds : List PyData)
  /-- a new list of data -/
  | m (ds : List PyData)
  /-- data -/
  | b (d : PyData)
  /-- this very value -/
  | r (v : V)
def Res (W : Wd) (H H' : Hp) (v : V) : AR → Prop
  | .f d => Fz H' v d
  | .l ds => ∃ p xs, v = .ref p ∧ W.fr H p ∧ H' p = some (.lst xs) ∧ FzAll H' xs ds
  | .g ds => ∃ p xs, v = .ref p ∧ H' p = some (.lst xs) ∧ ¬ W.R p ∧ FzAll H' xs ds
  | .m ds => ∃ p xs, v = .ref p ∧ W.fr H p ∧ H' p = some (.lst xs) ∧ DqAll W.R H' xs ds
  | .b d => Dq W.R H' v d
  | .r w => v = w
/-- the same, later -/
def Late (W : Wd) (H : Hp) (v : V) : AR → Prop
  | .f d => Fz H v d
  | .l ds => ∃ p xs, v = .ref p ∧ H p = some (.lst xs) ∧ ¬ W.R p ∧ FzAll H xs ds
  | .g ds => ∃ p xs, v = .ref p ∧ H p = some (.lst xs) ∧ ¬ W.R p ∧ FzAll H xs ds
  | .m ds => ∃ p xs, v = .ref p ∧ H p = some (.lst xs) ∧ ¬ W.R p ∧ DqAll W.R H xs ds
  | .b d => Dq W.R H v d
  | .r w => v = w
def AR.d : AR → Option PyData
  | .f d => some d
  | .l ds => some (.list ds)
  | .g ds => some (.list ds)
  | .m ds => some (.list ds)
  | .b d => some d
  | .r _ => none
section
variable {W : Wd} {H H1 H2 H' : Hp} {v : V} {a : AR}
theorem Res.late (j : W.J H) (h : Res W H H' v a) : Late W H' v a := by
  cases a with
  | f d => exact h
  | l ds =>
    obtain ⟨p, xs, e, hn, hp, t⟩ := h
    exact ⟨p, xs, e, hp, W.frR hn, t⟩
  | g ds => exact h
  | m ds =>
    obtain ⟨p, xs, e, hn, hp, t⟩ := h
    exact ⟨p, xs, e, hp, W.frR hn, t⟩
  | b d => exact h
  | r w => exact h
theorem Late.next (n : Nx W H H') (h : Late W H v a) : Late W H' v a := by
  cases a with
  | f d => exact Fz.to h n.1
  | l ds =>
    obtain ⟨p, xs, e, hp, nr, t⟩ := h
    exact ⟨p, xs, e, n.1.lst hp nr, nr, t.to n.1⟩
  | g ds =>
    obtain ⟨p, xs, e, hp, nr, t⟩ := h
    exact ⟨p, xs, e, n.1.lst hp nr, nr, t.to n.1⟩
  | m ds =>
    obtain ⟨p, xs, e, hp, nr, t⟩ := h
    exact ⟨p, xs, e, n.1.lst hp nr, nr, DqAll.keep n.1 _ _ t⟩
  | b d => exact Dq.keep n.1 _ _ h
  | r w => exact h
/-- ahead of the start -/
theorem Res.back (n : Nx W H H1) (h : Res W H1 H' v a) : Res W H H' v a := by
  cases a with
  | f d => exact h
  | l ds =>
    obtain ⟨p, xs, e, hn, hp, t⟩ := h
    exact ⟨p, xs, e, n.freshF hn, hp, t⟩
  | g ds => exact h
  | m ds =>
    obtain ⟨p, xs, e, hn, hp, t⟩ := h
    exact ⟨p, xs, e, n.freshF hn, hp, t⟩
  | b d => exact h
  | r w => exact h
theorem Late.dq {d : PyData} (h : Late W H v a) (e : a.d = some d) : Dq W.R H v d := by
  cases a with
  | f d' => cases e; exact Fz.dq _ _ h
  | l ds =>
    cases e
    obtain ⟨p, xs, rfl, hp, nr, t⟩ := h
    exact .lst hp nr (FzAll.dq _ _ t)
  | g ds =>
    cases e
    obtain ⟨p, xs, rfl, hp, nr, t⟩ := h
    exact .lst hp nr (FzAll.dq _ _ t)
  | m ds =>
    cases e
    obtain ⟨p, xs, rfl, hp, nr, t⟩ := h
    exact .lst hp nr t
  | b d' => cases e; exact h
  | r w => cases e
theorem Late.dp {K : PySem.W.Frag} {d : PyData} (h : Late W H v a) (e : a.d = some d) : Dp K H v d := Dq.dp _ _ (h.dq e)
end
/-- what is known of a slot -/
inductive AV where
  | no
  | dat (d : PyData)
  | arg (d : PyData)
  | gen (d : PyData)
  | own (p : Addr) (ds : List PyData)
  | raw (v : V)
def Holds (W : Wd) (H0 H : Hp) (o : Option V) : AV → Prop
  | .no => True
  | .dat d => ∃ v, o = some v ∧ Fz H v d
  | .arg d => ∃ v, o = some v ∧ Dq W.R H0 v d
  | .gen d => ∃ v, o = some v ∧ Dq W.R H v d
  | .own p ds => o = some (.ref p) ∧ W.fr H0 p ∧ ∃ xs, H p = some (.lst xs) ∧ FzAll H xs ds
  | .raw v => o = some v
structure Sat (W : Wd) (H0 : Hp) (E : List AV) (σ : L2.St) (H : Hp) : Prop where
  nx : Nx W H0 H
  j0 : W.J H0
  len : σ.length = E.length
  at_ : ∀ (i : Nat) (a : AV), E[i]? = some a → Holds W H0 H (σ[i]?.getD none) a
  sep : ∀ (i j : Nat) (p : Addr) (ds es : List PyData), E[i]? = some (.own p ds) → E[j]? = some (.own p es) → i = j
section
variable {W : Wd} {H0 H H' : Hp} {E : List AV} {σ : L2.St} {v : V}
theorem Holds.next {o : Option V} {a : AV} (j0 : W.J H0) (n : Nx W H H') (h : Holds W H0 H o a) : Holds W H0 H' o a := by
  cases a with
  | no => trivial
  | dat d =>
    obtain ⟨v, e, q⟩ := h
    exact ⟨v, e, q.to n.1⟩
  | arg d => exact h
  | gen d =>
    obtain ⟨v, e, q⟩ := h
    exact ⟨v, e, Dq.keep n.1 _ _ q⟩
  | own p ds =>
    obtain ⟨e, h0, xs, hp, t⟩ := h
    exact ⟨e, h0, xs, n.1.lst hp (W.frR h0), t.to n.1⟩
  | raw v => exact h
theorem Sat.next (S : Sat W H0 E σ H) (n : Nx W H H') : Sat W H0 E σ H' :=
  ⟨S.nx.trans n, S.j0, S.len, fun i a e => (S.at_ i a e).next S.j0 n, S.sep⟩
theorem Sat.kp (S : Sat W H0 E σ H) : Kp W.R H0 H := S.nx.1
theorem Sat.j (S : Sat W H0 E σ H) : W.J H := S.nx.2
theorem Sat.slot (S : Sat W H0 E σ H) {i : Nat} {a : AV} (e : E[i]? = some a) : ∃ o, σ[i]? = some o ∧ Holds W H0 H o a := by
  have h := S.at_ i a e
  have hi : i < σ.length := by rw [S.len]; exact (List.getElem?_eq_some_iff.mp e).1
  rw [List.getElem?_eq_getElem hi] at h
  exact ⟨σ[i], List.getElem?_eq_getElem hi, h⟩
/-- a slot set; a list only if it is no other slot's -/
theorem Sat.put (S : Sat W H0 E σ H) {i : Nat} {o : Option V} {a : AV} (h : Holds W H0 H o a) (hn : ∀ p ds, a = .own p ds → ∀ (k : Nat) (es : List PyData), E[k]? = some (.own p es) → k = i) : Sat W H0 (E.set i a) (σ.set i o) H := by
  have here : ∀ {k : Nat} {b : AV}, i = k → (E.set i a)[k]? = some b → a = b := fun {k b} hk e => by
    subst hk
    have hi : i < E.length := by have := (List.getElem?_eq_some_iff.mp e).1; rwa [List.length_set] at this
    rw [List.getElem?_set_self hi] at e
    exact Option.some.inj e
  refine ⟨S.nx, S.j0, by rw [List.length_set, List.length_set]; exact S.len, fun k b e => ?_, fun k l p ds es e1 e2 => ?_⟩
  · by_cases hk : i = k
    · have ea := here hk e
      subst hk ea
      have hi : i < E.length := by have := (List.getElem?_eq_some_iff.mp e).1; rwa [List.length_set] at this
      rw [List.getElem?_set_self (by rw [S.len]; exact hi)]
      exact h
    · rw [List.getElem?_set_ne hk] at e
      rw [List.getElem?_set_ne hk]
      exact S.at_ k b e
  · by_cases h1 : i = k
    · by_cases h2 : i = l
      · rw [← h1, ← h2]
      · have ea := here h1 e1
        rw [List.getElem?_set_ne h2] at e2
        exact h1.symm.trans (hn p ds ea l es e2).symm
    · rw [List.getElem?_set_ne h1] at e1
      by_cases h2 : i = l
      · have ea := here h2 e2
        exact (hn p es ea k ds e1).trans h2
      · rw [List.getElem?_set_ne h2] at e2
        exact S.sep k l p ds es e1 e2
theorem Sat.set (S : Sat W H0 E σ H) {i : Nat} {a : AV} (h : Holds W H0 H (some v) a) (hn : ∀ p ds, a ≠ .own p ds) : Sat W H0 (E.set i a) (σ.set i (some v)) H := S.put h fun p ds e => absurd e (hn p ds)
/-- a slot set to a new list -/
theorem Sat.setOwn (S : Sat W H0 E σ H) {i : Nat} {p : Addr} {xs : List V} {ds : List PyData} (n : Nx W H H') (hn : W.fr H p) (hp : H' p = some (.lst xs)) (t : FzAll H' xs ds) : Sat W H0 (E.set i (.own p ds)) (σ.set i (some (.ref p))) H' :=
  (S.next n).put ⟨rfl, S.nx.freshF hn, xs, hp, t⟩ fun q es e k cs z => by
    cases e
    obtain ⟨_, _, _, _, ys, hp', _⟩ := S.slot z
    exact (W.frl hn hp').elim
theorem Sat.clear (S : Sat W H0 E σ H) (i : Nat) (o : Option V) : Sat W H0 (E.set i .no) (σ.set i o) H := S.put trivial fun _ _ e => by cases e
/-- a list of one's own changed -/
theorem Sat.chOwn (S : Sat W H0 E σ H) {i : Nat} {p : Addr} {ys : List V} {ds es : List PyData} (he : E[i]? = some (.own p ds)) (hg : ∀ a ∈ E, ∀ d, a ≠ .gen d) (t : FzAll H ys es) :
    Sat W H0 (E.set i (.own p es)) σ (upd H p (.lst ys)) := by
  obtain ⟨o, e1, e2, h0, xs, hp, _⟩ := S.slot he
  have kt : ∀ a zs, H a = some (.tup zs) → upd H p (.lst ys) a = some (.tup zs) := fun a zs z => by
    rw [upd_ne (ne_of z hp (by intro y; cases y))]
    exact z
  refine ⟨S.nx.upd h0 hp, S.j0, by rw [List.length_set]; exact S.len, fun k b e => ?_, fun k l q ds' es' f1 f2 => ?_⟩
  · by_cases hk : i = k
    · subst hk
      have hi : i < E.length := (List.getElem?_eq_some_iff.mp he).1
      rw [List.getElem?_set_self hi] at e
      cases e
      rw [e1, e2]
      exact ⟨rfl, h0, ys, upd_same, FzAll.keep kt _ _ t⟩
    · rw [List.getElem?_set_ne hk] at e
      have h := S.at_ k b e
      cases b with
      | no => trivial
      | dat d =>
        obtain ⟨v, e, q⟩ := h
        exact ⟨v, e, Fz.keep kt _ _ q⟩
      | arg d => exact h
      | gen d => exact absurd rfl (hg _ (List.mem_of_getElem? e) d)
      | own q cs =>
        obtain ⟨a1, a2, zs, a3, a4⟩ := h
        have ne : q ≠ p := fun z => hk (S.sep i k p ds cs he (by rw [← z]; exact e))
        exact ⟨a1, a2, zs, by rw [upd_ne ne]; exact a3, FzAll.keep kt _ _ a4⟩
      | raw v => exact h
  · have back : ∀ {k : Nat} {q : Addr} {cs : List PyData}, (E.set i (.own p es))[k]? = some (.own q cs) → ∃ cs', E[k]? = some (.own q cs') := fun {k q cs} e => by
      by_cases hk : i = k
      · subst hk
        have hi : i < E.length := (List.getElem?_eq_some_iff.mp he).1
        rw [List.getElem?_set_self hi] at e
        cases e
        exact ⟨ds, he⟩
      · rw [List.getElem?_set_ne hk] at e
        exact ⟨cs, e⟩
    obtain ⟨c1, g1⟩ := back f1
    obtain ⟨c2, g2⟩ := back f2
    exact S.sep k l q c1 c2 g1 g2
/-- less is known -/
inductive Wk : List AV → List AV → Prop
  | nil : Wk [] []
  | no {a : AV} {E' E : List AV} (t : Wk E' E) : Wk (.no :: E') (a :: E)
  | same {a : AV} {E' E : List AV} (t : Wk E' E) : Wk (a :: E') (a :: E)
  | gen {d : PyData} {E' E : List AV} (t : Wk E' E) : Wk (.gen d :: E') (.arg d :: E)
  | genD {d : PyData} {E' E : List AV} (t : Wk E' E) : Wk (.gen d :: E') (.dat d :: E)
  | ownG {p : Addr} {ds : List PyData} {E' E : List AV} (t : Wk E' E) : Wk (.gen (.list ds) :: E') (.own p ds :: E)
theorem Wk.length : ∀ {E' E : List AV}, Wk E' E → E'.length = E.length
  | _, _, .nil => rfl
  | _, _, .no t => congrArg (· + 1) (Wk.length t)
  | _, _, .same t => congrArg (· + 1) (Wk.length t)
  | _, _, .gen t => congrArg (· + 1) (Wk.length t)
  | _, _, .genD t => congrArg (· + 1) (Wk.length t)
  | _, _, .ownG t => congrArg (· + 1) (Wk.length t)
theorem Wk.at_ : ∀ {E' E : List AV} {i : Nat} {a : AV}, Wk E' E → E'[i]? = some a → a = .no ∨ E[i]? = some a ∨ ∃ d, a = .gen d ∧ (E[i]? = some (.arg d) ∨ E[i]? = some (.dat d) ∨ ∃ p ds, d = .list ds ∧ E[i]? = some (.own p ds))
  | _, _, _, _, .nil, e => by simp at e
  | _, _, 0, a, .no t, e => by simp at e; exact .inl e.symm
  | _, _, 0, a, .same t, e => .inr (.inl e)
  | _, _, 0, a, .gen t, e => by simp at e; exact .inr (.inr ⟨_, e.symm, .inl rfl⟩)
  | _, _, 0, a, .genD t, e => by simp at e; exact .inr (.inr ⟨_, e.symm, .inr (.inl rfl)⟩)
  | _, _, 0, a, .ownG t, e => by simp at e; exact .inr (.inr ⟨_, e.symm, .inr (.inr ⟨_, _, rfl, rfl⟩)⟩)
  | _, _, i + 1, a, .no t, e => by simpa using Wk.at_ (i := i) (a := a) t (by simpa using e)
  | _, _, i + 1, a, .same t, e => by simpa using Wk.at_ (i := i) (a := a) t (by simpa using e)
  | _, _, i + 1, a, .gen t, e => by simpa using Wk.at_ (i := i) (a := a) t (by simpa using e)
  | _, _, i + 1, a, .genD t, e => by simpa using Wk.at_ (i := i) (a := a) t (by simpa using e)
  | _, _, i + 1, a, .ownG t, e => by simpa using Wk.at_ (i := i) (a := a) t (by simpa using e)
theorem Wk.rfl : ∀ {E : List AV}, Wk E E
  | [] => .nil
  | _ :: _ => .same Wk.rfl
theorem Sat.wk {E' : List AV} (S : Sat W H0 E σ H) (h : Wk E' E) : Sat W H0 E' σ H := by
  refine ⟨S.nx, S.j0, by rw [h.length]; exact S.len, fun i a e => ?_, fun i j p ds es e1 e2 => ?_⟩
  · rcases h.at_ e with z | z | ⟨d, z, y | y | ⟨p, ds, rfl, y⟩⟩
    · rw [z]
      trivial
    · exact S.at_ i a z
    · obtain ⟨v, e2, q⟩ := S.at_ i _ y
      rw [z]
      exact ⟨v, e2, Dq.keep S.kp _ _ q⟩
    · obtain ⟨v, e2, q⟩ := S.at_ i _ y
      rw [z]
      exact ⟨v, e2, Fz.dq _ _ q⟩
    · obtain ⟨e2, f, xs, hp, t⟩ := S.at_ i _ y
      rw [z]
      exact ⟨_, e2, .lst hp (W.frR f) (FzAll.dq _ _ t)⟩
  · rcases h.at_ e1 with z | z1 | ⟨d, z, _⟩
    · cases z
    · rcases h.at_ e2 with z | z2 | ⟨d, z, _⟩
      · cases z
      · exact S.sep i j p ds es z1 z2
      · cases z
    · cases z
/-- nothing that leans on the start -/
def plainE (E : List AV) : Bool := E.all fun a => match a with
  | .own _ _ => false
  | .arg _ => false
  | _ => true
theorem plain_at (h : plainE E = true) {i : Nat} {a : AV} (e : E[i]? = some a) : (∀ p ds, a ≠ .own p ds) ∧ ∀ d, a ≠ .arg d := by
  have q := List.all_eq_true.mp h _ (List.mem_of_getElem? e)
  refine ⟨fun p ds z => ?_, fun d z => ?_⟩
  · rw [z] at q
    cases q
  · rw [z] at q
    cases q
/-- told of another start -/
theorem Sat.move {H1 : Hp} (S : Sat W H0 E σ H) (h : plainE E = true) (k : Nx W H1 H) (j1 : W.J H1) : Sat W H1 E σ H := by
  refine ⟨k, j1, S.len, fun i a e => ?_, fun i j p ds es e1 => absurd rfl ((plain_at h e1).1 p ds)⟩
  have q := S.at_ i a e
  cases a with
  | no => trivial
  | dat d => exact q
  | arg d => exact absurd rfl ((plain_at h e).2 d)
  | gen d => exact q
  | own p ds => exact absurd rfl ((plain_at h e).1 p ds)
  | raw v => exact q
end
end K00

/-! Part Ev. -/
set_option Elab.async false
set_option linter.all false
set_option autoImplicit false
set_option maxRecDepth 100000
set_option maxHeartbeats 4000000
/-! What readings evaluate to, as data: expressions. -/
namespace K00
open PySem PySem.Spec PyProof.Rows L2

def Ev (W : Wd) (H0 : Hp) (te : TE) (E : List AV) (a : AR) : Prop := ∀ (σ : L2.St) (H : Hp), Sat W H0 E σ H → ∀ Q : VK, (∀ v H', Nx W H H' → Res W H H' v a → Q v H') → te σ H Q
def EvT (W : Wd) (H0 : Hp) (t : TT) (E : List AV) (b : Bool) : Prop := ∀ (σ : L2.St) (H : Hp), Sat W H0 E σ H → ∀ Q : Bool → Hp → Prop, (∀ H', Nx W H H' → Q b H') → t σ H Q
inductive LateAll (W : Wd) (H : Hp) : List V → List AR → Prop
  | nil : LateAll W H [] []
  | cons {v : V} {vs : List V} {a : AR} {as : List AR} (h : Late W H v a) (t : LateAll W H vs as) : LateAll W H (v :: vs) (a :: as)
def EvA (W : Wd) (H0 : Hp) (t : TA) (E : List AV) (as : List AR) : Prop := ∀ (σ : L2.St) (H : Hp), Sat W H0 E σ H → ∀ Q : List V → Hp → Prop, (∀ vs H', Nx W H H' → LateAll W H' vs as → Q vs H') → t σ H Q
def EvO (W : Wd) (H0 : Hp) (t : TO) (E : List AV) (o : Option Int) : Prop := ∀ (σ : L2.St) (H : Hp), Sat W H0 E σ H → ∀ Q : Option Int → Hp → Prop, (∀ H', Nx W H H' → Q o H') → t σ H Q
def fzs : List AR → List PyData
  | [] => []
  | .f d :: r => d :: fzs r
  | _ :: r => .none :: fzs r
def allF : List AR → Bool
  | [] => true
  | .f _ :: r => allF r
  | _ :: _ => false
def dts : List AR → List PyData
  | [] => []
  | a :: r => a.d.getD .none :: dts r
def allD : List AR → Bool
  | [] => true
  | a :: r => a.d.isSome && allD r
section
variable {W : Wd} {H H' : Hp}
theorem LateAll.next (n : Nx W H H') : ∀ {vs : List V} {as : List AR}, LateAll W H vs as → LateAll W H' vs as
  | _, _, .nil => .nil
  | _, _, .cons h t => .cons (h.next n) (LateAll.next n t)
theorem LateAll.length : ∀ {vs : List V} {as : List AR}, LateAll W H vs as → vs.length = as.length
  | _, _, .nil => rfl
  | _, _, .cons _ t => congrArg (· + 1) (LateAll.length t)
theorem LateAll.append : ∀ {vs ws : List V} {as bs : List AR}, LateAll W H vs as → LateAll W H ws bs → LateAll W H (vs ++ ws) (as ++ bs)
  | _, _, _, _, .nil, s => s
  | _, _, _, _, .cons h t, s => .cons h (LateAll.append t s)
theorem LateAll.of_fz : ∀ {vs : List V} {ds : List PyData}, FzAll H vs ds → LateAll W H vs (ds.map .f)
  | _, _, .nil => .nil
  | _, _, .cons h t => .cons h (LateAll.of_fz t)
theorem LateAll.fz : ∀ {vs : List V} {as : List AR}, LateAll W H vs as → allF as = true → FzAll H vs (fzs as)
  | _, _, .nil, _ => .nil
  | _, .f d :: as, .cons h t, e => .cons h (LateAll.fz t e)
  | _, .l _ :: _, .cons _ _, e => by cases e
  | _, .g _ :: _, .cons _ _, e => by cases e
  | _, .m _ :: _, .cons _ _, e => by cases e
  | _, .b _ :: _, .cons _ _, e => by cases e
  | _, .r _ :: _, .cons _ _, e => by cases e
theorem LateAll.dq : ∀ {vs : List V} {as : List AR}, LateAll W H vs as → allD as = true → DqAll W.R H vs (dts as)
  | _, _, .nil, _ => .nil
  | _, a :: as, .cons h t, e => by
    obtain ⟨e1, e2⟩ := Bool.and_eq_true_iff.mp (show (a.d.isSome && allD as) = true from e)
    obtain ⟨d, hd⟩ := Option.isSome_iff_exists.mp e1
    have q := h.dq hd
    refine .cons ?_ (LateAll.dq t e2)
    rw [hd]
    exact q
theorem allF_map (ds : List PyData) : allF (ds.map .f) = true := by
  induction ds with
  | nil => rfl
  | cons d ds ih => exact ih
theorem fzs_map (ds : List PyData) : fzs (ds.map .f) = ds := by
  induction ds with
  | nil => rfl
  | cons d ds ih => exact congrArg (d :: ·) ih
theorem fzs_app (ds : List PyData) (as : List AR) : fzs (ds.map .f ++ as) = ds ++ fzs as := by
  induction ds with
  | nil => rfl
  | cons d ds ih => exact congrArg (d :: ·) ih
theorem allF_app (ds : List PyData) (as : List AR) : allF (ds.map .f ++ as) = allF as := by
  induction ds with
  | nil => rfl
  | cons d ds ih => exact ih
end

/-! ### kinds -/
def isInt : PyData → Bool
  | .int _ => true
  | .bool _ => true
  | _ => false
def isBool : PyData → Bool
  | .bool _ => true
  | _ => false
def isStr : PyData → Bool
  | .str _ => true
  | _ => false
def isTup : PyData → Bool
  | .tuple _ => true
  | _ => false
def isLst : PyData → Bool
  | .list _ => true
  | _ => false
def isNon : PyData → Bool
  | .none => true
  | _ => false
/-- the length of a sequence -/
def dlen : PyData → Nat
  | .tuple ds => ds.length
  | .list ds => ds.length
  | _ => 0
/-- of small depth, with texts that can be read -/
structure Sh (n : Nat) (d : PyData) : Prop where
  lay : d.canLay0 = true
  dep : d.depth ≤ n
structure ShAll (n : Nat) (ds : List PyData) : Prop where
  lay : PyData.canLayAll0 ds = true
  dep : PyData.depthAll ds ≤ n
section
variable {n m : Nat} {d : PyData} {ds es : List PyData}
theorem Sh.mono (h : Sh n d) (l : n ≤ m) : Sh m d := ⟨h.lay, Nat.le_trans h.dep l⟩
theorem Sh.shaped (h : Sh n d) (l : n ≤ 64 := by decide) : SeqAt.shaped d = true := by
  show (d.canLay0 && decide (d.depth ≤ 64)) = true
  rw [h.lay, Bool.true_and]
  exact decide_eq_true (Nat.le_trans h.dep l)
theorem Sh.none : Sh n .none := ⟨by simp [PyData.canLay0], by simp [PyData.depth]⟩
theorem Sh.int (i : Int) : Sh n (.int i) := ⟨by simp [PyData.canLay0], by simp [PyData.depth]⟩
theorem Sh.bool (b : Bool) : Sh n (.bool b) := ⟨by simp [PyData.canLay0], by simp [PyData.depth]⟩
theorem Sh.str {x : Str} (h : PyData.canLay0 (.str x) = true) : Sh n (.str x) := ⟨h, by simp [PyData.depth]⟩
theorem ShAll.nil : ShAll n [] := ⟨by simp [PyData.canLayAll0], by simp [PyData.depthAll]⟩
theorem ShAll.cons (h : Sh n d) (t : ShAll n ds) : ShAll n (d :: ds) := ⟨by simp [PyData.canLayAll0, h.lay, t.lay], by
  have h1 := h.dep
  have h2 := t.dep
  simp only [PyData.depthAll]
  omega⟩
theorem ShAll.inv (h : ShAll n (d :: ds)) : Sh n d ∧ ShAll n ds := by
  have h1 := h.lay
  have h2 := h.dep
  simp only [PyData.canLayAll0, Bool.and_eq_true] at h1
  simp only [PyData.depthAll] at h2
  exact ⟨⟨h1.1, by omega⟩, ⟨h1.2, by omega⟩⟩
theorem ShAll.of : ∀ {ds : List PyData}, (∀ d ∈ ds, Sh n d) → ShAll n ds
  | [], _ => .nil
  | d :: ds, h => .cons (h d List.mem_cons_self) (ShAll.of fun e he => h e (List.mem_cons_of_mem _ he))
theorem ShAll.each : ∀ {ds : List PyData}, ShAll n ds → ∀ d ∈ ds, Sh n d
  | [], _, d, h => by cases h
  | e :: ds, t, d, h => by
    obtain ⟨t1, t2⟩ := t.inv
    rcases List.mem_cons.mp h with z | z
    · rw [z]
      exact t1
    · exact ShAll.each t2 d z
theorem ShAll.tup (h : ShAll n ds) : Sh (n + 1) (.tuple ds) := ⟨by simp only [PyData.canLay0]; exact h.lay, by
  have := h.dep
  simp only [PyData.depth]
  omega⟩
theorem ShAll.lst (h : ShAll n ds) : Sh (n + 1) (.list ds) := ⟨by simp only [PyData.canLay0]; exact h.lay, by
  have := h.dep
  simp only [PyData.depth]
  omega⟩
theorem Sh.ofTup (h : Sh (n + 1) (.tuple ds)) : ShAll n ds := by
  have h1 := h.lay
  have h2 := h.dep
  simp only [PyData.canLay0] at h1
  simp only [PyData.depth] at h2
  exact ⟨h1, by omega⟩
theorem Sh.ofLst (h : Sh (n + 1) (.list ds)) : ShAll n ds := by
  have h1 := h.lay
  have h2 := h.dep
  simp only [PyData.canLay0] at h1
  simp only [PyData.depth] at h2
  exact ⟨h1, by omega⟩
theorem ShAll.ints (ns : List Int) : ShAll n (ns.map .int) := .of fun d h => by
  obtain ⟨i, _, rfl⟩ := List.mem_map.mp h
  exact .int i
theorem ShAll.append (h : ShAll n ds) (t : ShAll n es) : ShAll n (ds ++ es) := .of fun d hd => by
  rcases List.mem_append.mp hd with z | z
  · exact h.each d z
  · exact t.each d z
end

/-! ### expressions -/
section
variable {W : Wd} {H0 : Hp} {K : PySem.W.Frag} {E : List AV} {ta tb tc te : TE} {t u : TT} {a b c : AR} {d e : PyData} {ds es : List PyData}
theorem Ev.late (h : Ev W H0 te E a) {σ : L2.St} {H : Hp} (S : Sat W H0 E σ H) {Q : VK} (k : ∀ v H', Nx W H H' → Late W H' v a → Q v H') : te σ H Q :=
  h σ H S Q fun v H' n r => k v H' n (r.late S.j)
theorem Ev.toB (h : Ev W H0 te E a) (e : a.d = some d) : Ev W H0 te E (.b d) := fun σ H S Q k => h σ H S Q fun v H' n r => k v H' n ((r.late S.j).dq e)
theorem Ev.toG (h : Ev W H0 te E (.l ds)) : Ev W H0 te E (.g ds) := fun σ H S Q k => h σ H S Q fun v H' n r => k v H' n (r.late S.j)
theorem Ev.is (h : Ev W H0 te E a) (e : a = b) : Ev W H0 te E b := e ▸ h
theorem EvT.is {x y : Bool} (h : EvT W H0 t E x) (e : x = y) : EvT W H0 t E y := e ▸ h
theorem ev_dat {i : Nat} (h : E[i]? = some (.dat d)) : Ev W H0 (tVar i) E (.f d) := fun σ H S Q k => by
  obtain ⟨o, e1, v, e2, q⟩ := S.slot h
  exact ⟨v, by rw [e1, e2], k v H (.refl S.j) q⟩
theorem ev_arg {i : Nat} (h : E[i]? = some (.arg d)) : Ev W H0 (tVar i) E (.b d) := fun σ H S Q k => by
  obtain ⟨o, e1, v, e2, q⟩ := S.slot h
  exact ⟨v, by rw [e1, e2], k v H (.refl S.j) (Dq.keep S.kp _ _ q)⟩
def flatD : PyData → Bool
  | .none => true
  | .bool _ => true
  | .int _ => true
  | .str _ => true
  | _ => false
theorem Dq.flat {R : Addr → Prop} {H : Hp} {v : V} (h : Dq R H v d) (e : flatD d = true) : Fz H v d := by
  cases h with
  | non => exact .non
  | bl b => exact .bl b
  | int i => exact .int i
  | str x => exact .str x
  | tup h t => cases e
  | lst h n t => cases e
theorem ev_argF {i : Nat} (h : E[i]? = some (.arg d)) (e : flatD d = true) : Ev W H0 (tVar i) E (.f d) := fun σ H S Q k => by
  obtain ⟨o, e1, v, e2, q⟩ := S.slot h
  exact ⟨v, by rw [e1, e2], k v H (.refl S.j) (Dq.flat (Dq.keep S.kp _ _ q) e)⟩
theorem ev_genF {i : Nat} (h : E[i]? = some (.gen d)) (e : flatD d = true) : Ev W H0 (tVar i) E (.f d) := fun σ H S Q k => by
  obtain ⟨o, e1, v, e2, q⟩ := S.slot h
  exact ⟨v, by rw [e1, e2], k v H (.refl S.j) (Dq.flat q e)⟩
theorem ev_gen {i : Nat} (h : E[i]? = some (.gen d)) : Ev W H0 (tVar i) E (.b d) := fun σ H S Q k => by
  obtain ⟨o, e1, v, e2, q⟩ := S.slot h
  exact ⟨v, by rw [e1, e2], k v H (.refl S.j) q⟩
theorem ev_own {i : Nat} {p : Addr} (h : E[i]? = some (.own p ds)) : Ev W H0 (tVar i) E (.g ds) := fun σ H S Q k => by
  obtain ⟨o, e1, e2, h0, xs, hp, t⟩ := S.slot h
  exact ⟨.ref p, by rw [e1, e2], k _ H (.refl S.j) ⟨p, xs, rfl, hp, W.frR h0, t⟩⟩
theorem ev_raw {i : Nat} {v : V} (h : E[i]? = some (.raw v)) : Ev W H0 (tVar i) E (.r v) := fun σ H S Q k => by
  obtain ⟨o, e1, e2⟩ := S.slot h
  exact ⟨v, by rw [e1, e2], k v H (.refl S.j) rfl⟩
theorem ev_int {i : Int} : Ev W H0 (tC (.int i)) E (.f (.int i)) := fun σ H S Q k => k _ H (.refl S.j) (.int i)
theorem ev_bl {x : Bool} : Ev W H0 (tC (.bl x)) E (.f (.bool x)) := fun σ H S Q k => k _ H (.refl S.j) (.bl x)
theorem ev_str {x : Str} : Ev W H0 (tC (.str x)) E (.f (.str x)) := fun σ H S Q k => k _ H (.refl S.j) (.str x)
theorem ev_non : Ev W H0 (tC .non) E (.f .none) := fun σ H S Q k => k _ H (.refl S.j) .non
theorem ev_c {v : V} : Ev W H0 (tC v) E (.r v) := fun σ H S Q k => k _ H (.refl S.j) rfl
/-- two operands, by values -/
theorem ev_op {r : R2} (ha : Ev W H0 ta E a) (hb : Ev W H0 tb E b) (hr : ∀ v w H, W.J H → Late W H v a → Late W H w b → ∀ Q : VK, (∀ u H', Nx W H H' → Res W H H' u c → Q u H') → r v w H Q) : Ev W H0 (tOp r ta tb) E c := fun σ H S Q k =>
  ha.late S fun v H1 n1 q1 => hb.late (S.next n1) fun w H2 n2 q2 => hr v w H2 n2.2 (q1.next n2) q2 Q fun u H' n3 q3 => k u H' ((n1.trans n2).trans n3) (q3.back (n1.trans n2))
theorem ev_un {r : V → Hp → VK → Prop} (ha : Ev W H0 ta E a) (hr : ∀ v H, W.J H → Late W H v a → ∀ Q : VK, (∀ u H', Nx W H H' → Res W H H' u c → Q u H') → r v H Q) : Ev W H0 (tUn r ta) E c := fun σ H S Q k =>
  ha.late S fun v H1 n1 q1 => hr v H1 n1.2 q1 Q fun u H' n3 q3 => k u H' (n1.trans n3) (q3.back n1)
theorem ev_neg {i : Int} (ha : Ev W H0 ta E (.f (.int i))) : Ev W H0 (tUn (rU fun i => .int (-i)) ta) E (.f (.int (-i))) := ev_un ha fun v H j q Q k => by
  cases q
  exact ⟨i, rfl, k _ H (.refl j) (.int _)⟩
theorem ev_int2 {g : Int → Int → Int} {i j : Int} (ha : Ev W H0 ta E (.f (.int i))) (hb : Ev W H0 tb E (.f (.int j))) : Ev W H0 (tOp (rI0 fun i j => .int (g i j)) ta tb) E (.f (.int (g i j))) := ev_op ha hb fun v w H jj q1 q2 Q k => by
  cases q1
  cases q2
  exact ⟨i, j, rfl, rfl, k _ H (.refl jj) (.int _)⟩
theorem ev_cmp2 {g : Int → Int → Bool} {i j : Int} (ha : Ev W H0 ta E (.f (.int i))) (hb : Ev W H0 tb E (.f (.int j))) : Ev W H0 (tOp (rI0 fun i j => .bl (g i j)) ta tb) E (.f (.bool (g i j))) := ev_op ha hb fun v w H jj q1 q2 Q k => by
  cases q1
  cases q2
  exact ⟨i, j, rfl, rfl, k _ H (.refl jj) (.bl _)⟩
theorem ev_intC {C : Int → Int → Prop} {g : Int → Int → Int} {i j : Int} (ha : Ev W H0 ta E (.f (.int i))) (hb : Ev W H0 tb E (.f (.int j))) (hc : C i j) : Ev W H0 (tOp (rI C fun i j => .int (g i j)) ta tb) E (.f (.int (g i j))) := ev_op ha hb fun v w H jj q1 q2 Q k => by
  cases q1
  cases q2
  exact ⟨i, j, rfl, rfl, hc, k _ H (.refl jj) (.int _)⟩
theorem ev_eqD (ha : Ev W H0 ta E a) (hb : Ev W H0 tb E b) (e1 : a.d = some d) (e2 : b.d = some e) (s1 : SeqAt.shaped d = true) (s2 : SeqAt.shaped e = true) : Ev W H0 (tOp (rEqD K) ta tb) E (.f (.bool (PyData.eqv d e))) := ev_op ha hb fun v w H j q1 q2 Q k =>
  ⟨d, e, q1.dp e1, q2.dp e2, s1, s2, k _ H (.refl j) (.bl _)⟩
theorem ev_neD (ha : Ev W H0 ta E a) (hb : Ev W H0 tb E b) (e1 : a.d = some d) (e2 : b.d = some e) (s1 : SeqAt.shaped d = true) (s2 : SeqAt.shaped e = true) : Ev W H0 (tOp (rNeD K) ta tb) E (.f (.bool (!PyData.eqv d e))) := ev_op ha hb fun v w H j q1 q2 Q k =>
  ⟨d, e, q1.dp e1, q2.dp e2, s1, s2, k _ H (.refl j) (.bl _)⟩
theorem ev_eqS {x y : Str} (ha : Ev W H0 ta E (.f (.str x))) (hb : Ev W H0 tb E (.f (.str y))) : Ev W H0 (tOp rEq ta tb) E (.f (.bool (decide (x = y)))) := ev_op ha hb fun v w H j q1 q2 Q k => by
  cases q1
  cases q2
  refine ⟨rfl, ?_⟩
  have e : decide (V.str x = V.str y) = decide (x = y) := by
    by_cases h : x = y
    · rw [h]
      simp
    · rw [decide_eq_false h, decide_eq_false fun z => h (V.str.inj z)]
  rw [e]
  exact k _ H (.refl j) (.bl _)
theorem ev_eqI {x y : Int} (ha : Ev W H0 ta E (.f (.int x))) (hb : Ev W H0 tb E (.f (.int y))) : Ev W H0 (tOp rEq ta tb) E (.f (.bool (decide (x = y)))) := ev_op ha hb fun v w H j q1 q2 Q k => by
  cases q1
  cases q2
  refine ⟨rfl, ?_⟩
  have e : decide (V.int x = V.int y) = decide (x = y) := by
    by_cases h : x = y
    · rw [h]
      simp
    · rw [decide_eq_false h, decide_eq_false fun z => h (V.int.inj z)]
  rw [e]
  exact k _ H (.refl j) (.bl _)
theorem ev_neI {x y : Int} (ha : Ev W H0 ta E (.f (.int x))) (hb : Ev W H0 tb E (.f (.int y))) : Ev W H0 (tOp rNe ta tb) E (.f (.bool (!decide (x = y)))) := ev_op ha hb fun v w H j q1 q2 Q k => by
  cases q1
  cases q2
  refine ⟨rfl, ?_⟩
  have e : decide (V.int x = V.int y) = decide (x = y) := by
    by_cases h : x = y
    · rw [h]
      simp
    · rw [decide_eq_false h, decide_eq_false fun z => h (V.int.inj z)]
  rw [e]
  exact k _ H (.refl j) (.bl _)
theorem ev_eqB {x y : Bool} (ha : Ev W H0 ta E (.f (.bool x))) (hb : Ev W H0 tb E (.f (.bool y))) : Ev W H0 (tOp rEq ta tb) E (.f (.bool (decide (x = y)))) := ev_op ha hb fun v w H j q1 q2 Q k => by
  cases q1
  cases q2
  refine ⟨rfl, ?_⟩
  have e : decide (V.bl x = V.bl y) = decide (x = y) := by cases x <;> cases y <;> rfl
  rw [e]
  exact k _ H (.refl j) (.bl _)
theorem ev_neB {x y : Bool} (ha : Ev W H0 ta E (.f (.bool x))) (hb : Ev W H0 tb E (.f (.bool y))) : Ev W H0 (tOp rNe ta tb) E (.f (.bool (!decide (x = y)))) := ev_op ha hb fun v w H j q1 q2 Q k => by
  cases q1
  cases q2
  refine ⟨rfl, ?_⟩
  have e : decide (V.bl x = V.bl y) = decide (x = y) := by cases x <;> cases y <;> rfl
  rw [e]
  exact k _ H (.refl j) (.bl _)
theorem ev_inD (ha : Ev W H0 ta E a) (hb : Ev W H0 tb E b) (e1 : a.d = some d) (e2 : b.d = some (.list ds)) (s1 : SeqAt.shaped d = true) (s2 : SeqAt.shaped (.list ds) = true) : Ev W H0 (tOp (rInD K) ta tb) E (.f (.bool (ds.any fun z => PyData.eqv z d))) := ev_op ha hb fun v w H j q1 q2 Q k =>
  ⟨d, ds, q1.dp e1, q2.dp e2, s1, s2, k _ H (.refl j) (.bl _)⟩
theorem ev_niD (ha : Ev W H0 ta E a) (hb : Ev W H0 tb E b) (e1 : a.d = some d) (e2 : b.d = some (.list ds)) (s1 : SeqAt.shaped d = true) (s2 : SeqAt.shaped (.list ds) = true) : Ev W H0 (tOp (rNotInD K) ta tb) E (.f (.bool (!ds.any fun z => PyData.eqv z d))) := ev_op ha hb fun v w H j q1 q2 Q k =>
  ⟨d, ds, q1.dp e1, q2.dp e2, s1, s2, k _ H (.refl j) (.bl _)⟩
theorem inV_strs (x : Str) (ws : List Str) : inV (.str x) (ws.map V.str) = ws.contains x := by
  induction ws with
  | nil => rfl
  | cons w ws ih =>
    show ((w == x) || inV (.str x) (ws.map V.str)) = _
    rw [ih, List.contains_cons, BEq.comm (a := w)]
theorem inV_ints (x : Int) (ws : List Int) : inV (.int x) (ws.map V.int) = ws.contains x := by
  induction ws with
  | nil => rfl
  | cons w ws ih =>
    show ((w == x) || inV (.int x) (ws.map V.int)) = _
    rw [ih, List.contains_cons, BEq.comm (a := w)]
theorem flat_strs (ws : List Str) : (ws.map V.str).all flatV = true := by
  rw [List.all_eq_true]
  intro v hv
  obtain ⟨x, _, rfl⟩ := List.mem_map.mp hv
  rfl
theorem flat_ints (ws : List Int) : (ws.map V.int).all flatV = true := by
  rw [List.all_eq_true]
  intro v hv
  obtain ⟨x, _, rfl⟩ := List.mem_map.mp hv
  rfl
/-- what a sequence of frozen data is read as -/
theorem Late.seq {H : Hp} {v : V} (h : Late W H v a) (e : (∃ es, a = .l es ∧ es = ds) ∨ (∃ es, a = .g es ∧ es = ds) ∨ a = .f (.tuple ds)) : ∃ p xs, v = .ref p ∧ FzAll H xs ds ∧ (SqL K H p xs ∨ SqT K H p xs) := by
  rcases e with ⟨es, rfl, rfl⟩ | ⟨es, rfl, rfl⟩ | rfl
  · obtain ⟨p, xs, e1, hp, _, t⟩ := h
    exact ⟨p, xs, e1, t, .inl (SqL.of hp)⟩
  · obtain ⟨p, xs, e1, hp, _, t⟩ := h
    exact ⟨p, xs, e1, t, .inl (SqL.of hp)⟩
  · cases h with
    | tup hp t => exact ⟨_, _, rfl, t, .inr (SqT.of hp)⟩
/-- x in (texts) -/
theorem ev_inS {x : Str} {ws : List Str} {neg : Bool} (ha : Ev W H0 ta E (.f (.str x))) (hb : Ev W H0 tb E b) (e : (∃ es, b = .l es ∧ es = ws.map .str) ∨ (∃ es, b = .g es ∧ es = ws.map .str) ∨ b = .f (.tuple (ws.map .str))) :
    Ev W H0 (tOp (rIn K neg) ta tb) E (.f (.bool (if neg then !ws.contains x else ws.contains x))) := ev_op ha hb fun v w H j q1 q2 Q k => by
  cases q1
  obtain ⟨p, xs, e1, t, s⟩ := q2.seq (K := K) e
  have hx := FzAll.strs t
  subst hx
  refine ⟨p, _, e1, s, rfl, flat_strs ws, ?_⟩
  rw [inV_strs]
  exact k _ H (.refl j) (.bl _)
/-- x in (ints) -/
theorem ev_inI {x : Int} {ws : List Int} {neg : Bool} (ha : Ev W H0 ta E (.f (.int x))) (hb : Ev W H0 tb E b) (e : (∃ es, b = .l es ∧ es = ws.map .int) ∨ (∃ es, b = .g es ∧ es = ws.map .int) ∨ b = .f (.tuple (ws.map .int))) :
    Ev W H0 (tOp (rIn K neg) ta tb) E (.f (.bool (if neg then !ws.contains x else ws.contains x))) := ev_op ha hb fun v w H j q1 q2 Q k => by
  cases q1
  obtain ⟨p, xs, e1, t, s⟩ := q2.seq (K := K) e
  have hx := FzAll.ints t
  subst hx
  refine ⟨p, _, e1, s, rfl, flat_ints ws, ?_⟩
  rw [inV_ints]
  exact k _ H (.refl j) (.bl _)
theorem fz_none {H : Hp} {R : Addr → Prop} {v : V} {d : PyData} (h : Dq R H v d) : decide (v = .non) = isNon d := by
  cases h <;> rfl
def rIsZ : R2 := fun x y H Q => y = .non ∧ Q (.bl (decide (x = .non))) H
def rNotZ : R2 := fun x y H Q => y = .non ∧ Q (.bl (!decide (x = .non))) H
theorem op_isZ {X : Cx} : OpR X (compareOp .Is) rIsZ := op_isN
theorem op_notZ {X : Cx} : OpR X (compareOp .IsNot) rNotZ := op_notN
theorem ev_isNone (ha : Ev W H0 ta E a) (e : a.d = some d) : Ev W H0 (tOp rIsZ ta (tC .non)) E (.f (.bool (isNon d))) := ev_op (b := .r .non) ha ev_c fun v w H j q1 q2 Q k => by
  refine ⟨q2, ?_⟩
  rw [fz_none (q1.dq e)]
  exact k _ H (.refl j) (.bl _)
theorem ev_notNone (ha : Ev W H0 ta E a) (e : a.d = some d) : Ev W H0 (tOp rNotZ ta (tC .non)) E (.f (.bool (!isNon d))) := ev_op (b := .r .non) ha ev_c fun v w H j q1 q2 Q k => by
  refine ⟨q2, ?_⟩
  rw [fz_none (q1.dq e)]
  exact k _ H (.refl j) (.bl _)
/-! items -/
theorem atI_fz {H : Hp} {xs : List V} {i : Int} (t : FzAll H xs ds) (h : atI ds i = some d) : ∃ v, atI xs i = some v ∧ Fz H v d := by
  unfold atI at h ⊢
  rw [t.length]
  obtain ⟨j, h1, h2⟩ := Option.bind_eq_some_iff.mp h
  obtain ⟨v, h3, h4⟩ := t.get h2
  exact ⟨v, Option.bind_eq_some_iff.mpr ⟨j, h1, h3⟩, h4⟩
theorem atI_dq {R : Addr → Prop} {H : Hp} {xs : List V} {i : Int} (t : DqAll R H xs ds) (h : atI ds i = some d) : ∃ v, atI xs i = some v ∧ Dq R H v d := by
  unfold atI at h ⊢
  rw [t.length]
  obtain ⟨j, h1, h2⟩ := Option.bind_eq_some_iff.mp h
  obtain ⟨v, h3, h4⟩ := t.get h2
  exact ⟨v, Option.bind_eq_some_iff.mpr ⟨j, h1, h3⟩, h4⟩
theorem ev_ixT {i : Int} (ha : Ev W H0 ta E (.f (.tuple ds))) (hb : Ev W H0 tb E (.f (.int i))) (h : atI ds i = some d) : Ev W H0 (tOp (rIxT K) ta tb) E (.f d) := ev_op ha hb fun v w H j q1 q2 Q k => by
  cases q2
  cases q1 with
  | tup hp t =>
    obtain ⟨v, h1, h2⟩ := atI_fz t h
    exact ⟨_, _, i, v, rfl, rfl, SqT.of hp, h1, k _ H (.refl j) h2⟩
theorem ev_ixL {i : Int} (ha : Ev W H0 ta E a) (hb : Ev W H0 tb E (.f (.int i))) (e : a = .l ds ∨ a = .g ds) (h : atI ds i = some d) : Ev W H0 (tOp (rIxL K) ta tb) E (.f d) := ev_op ha hb fun v w H j q1 q2 Q k => by
  cases q2
  have q1' : ∃ p xs, v = .ref p ∧ H p = some (.lst xs) ∧ ¬ W.R p ∧ FzAll H xs ds := by
    rcases e with rfl | rfl
    · exact q1
    · exact q1
  obtain ⟨p, xs, rfl, hp, _, t⟩ := q1'
  obtain ⟨v, h1, h2⟩ := atI_fz t h
  exact ⟨_, _, i, v, rfl, rfl, SqL.of hp, h1, k _ H (.refl j) h2⟩
/-- an item of a tuple that may hold lists -/
theorem ev_ixTB {i : Int} (ha : Ev W H0 ta E (.b (.tuple ds))) (hb : Ev W H0 tb E (.f (.int i))) (h : atI ds i = some d) : Ev W H0 (tOp (rIxT K) ta tb) E (.b d) := ev_op ha hb fun v w H j q1 q2 Q k => by
  cases q2
  cases q1 with
  | tup hp t =>
    obtain ⟨v, h1, h2⟩ := atI_dq t h
    exact ⟨_, _, i, v, rfl, rfl, SqT.of hp, h1, k _ H (.refl j) h2⟩
/-! arguments, displays -/
theorem eva_nil : EvA W H0 tNil E [] := fun σ H S Q k => k [] H (.refl S.j) .nil
theorem eva_cons {tr : TA} {as : List AR} (h : Ev W H0 ta E a) (hr : EvA W H0 tr E as) : EvA W H0 (tCons ta tr) E (a :: as) := fun σ H S Q k =>
  h.late S fun v H1 n1 q1 => hr σ H1 (S.next n1) _ fun vs H2 n2 q2 => k _ H2 (n1.trans n2) (.cons (q1.next n2) q2)
/-- *t, the rest -/
theorem eva_star {tr : TA} {as : List AR} (h : Ev W H0 ta E (.f (.tuple ds))) (hr : EvA W H0 tr E as) : EvA W H0 (StX.tStar K ta tr) E (ds.map .f ++ as) := fun σ H S Q k =>
  h.late S fun v H1 n1 q1 => by
    cases q1 with
    | tup hp t =>
      exact ⟨_, _, rfl, .inl (SqT.of hp), hr σ H1 (S.next n1) _ fun vs H2 n2 q2 => k _ H2 (n1.trans n2) ((LateAll.of_fz (t.to n2.1)).append q2)⟩
theorem sz_le {n : Nat} (h : n ≤ 100000) : n ≤ sizeLine := Nat.le_trans h (by decide)
theorem sz_lt' {n : Nat} (h : n < 100000) : n < sizeLine := Nat.lt_of_lt_of_le h (by decide)
theorem ev_tup {ta : TA} {as : List AR} (h : EvA W H0 ta E as) (hf : allF as = true) (hl : as.length ≤ 100000) : Ev W H0 (tTup ta) E (.f (.tuple (fzs as))) := fun σ H S Q k =>
  h σ H S _ fun vs H1 n1 q1 => ⟨sz_le (by rw [q1.length]; exact hl), fun p hp => k _ _ (n1.trans (.new n1.2 hp _)) (.tup upd_same ((q1.fz hf).same (same_new hp _)))⟩
theorem ev_lst {ta : TA} {as : List AR} (h : EvA W H0 ta E as) (hf : allF as = true) (hl : as.length ≤ 100000) : Ev W H0 (tLst ta) E (.l (fzs as)) := fun σ H S Q k =>
  h σ H S _ fun vs H1 n1 q1 => ⟨sz_le (by rw [q1.length]; exact hl), fun p hp => k _ _ (n1.trans (.new n1.2 hp _)) ⟨p, vs, rfl, n1.fresh hp, upd_same, (q1.fz hf).same (same_new hp _)⟩⟩
theorem ev_lstM {ta : TA} {as : List AR} (h : EvA W H0 ta E as) (hf : allD as = true) (hl : as.length ≤ 100000) : Ev W H0 (tLst ta) E (.m (dts as)) := fun σ H S Q k =>
  h σ H S _ fun vs H1 n1 q1 => ⟨sz_le (by rw [q1.length]; exact hl), fun p hp => k _ _ (n1.trans (.new n1.2 hp _)) ⟨p, vs, rfl, n1.fresh hp, upd_same, DqAll.keep (Kp.of_same (same_new hp _)) _ _ (q1.dq hf)⟩⟩
/-! calls of built-ins -/
theorem ev_cb {r : List V → Hp → VK → Prop} {t : TA} {as : List AR} (h : EvA W H0 t E as) (hr : ∀ vs H, W.J H → LateAll W H vs as → ∀ Q : VK, (∀ u H', Nx W H H' → Res W H H' u c → Q u H') → r vs H Q) : Ev W H0 (tCB r t) E c := fun σ H S Q k =>
  h σ H S _ fun vs H1 n1 q1 => hr vs H1 n1.2 q1 Q fun u H' n2 q2 => k u H' (n1.trans n2) (q2.back n1)
theorem late1 {H : Hp} {vs : List V} (q : LateAll W H vs [a]) : ∃ v, vs = [v] ∧ Late W H v a := by
  cases q with
  | cons h t =>
    cases t
    exact ⟨_, rfl, h⟩
theorem late2 {H : Hp} {vs : List V} (q : LateAll W H vs [a, b]) : ∃ v w, vs = [v, w] ∧ Late W H v a ∧ Late W H w b := by
  cases q with
  | cons h t =>
    obtain ⟨w, rfl, h2⟩ := late1 t
    exact ⟨_, w, rfl, h, h2⟩
theorem late3 {H : Hp} {vs : List V} (q : LateAll W H vs [a, b, c]) : ∃ v w x, vs = [v, w, x] ∧ Late W H v a ∧ Late W H w b ∧ Late W H x c := by
  cases q with
  | cons h t =>
    obtain ⟨w, x, rfl, h2, h3⟩ := late2 t
    exact ⟨_, w, x, rfl, h, h2, h3⟩
def tyNm : PyData → String
  | .none => "NoneType"
  | .bool _ => "bool"
  | .int _ => "int"
  | .str _ => "str"
  | .list _ => "list"
  | .tuple _ => "tuple"
  | .dict _ => "dict"
theorem tyX_of {R : Addr → Prop} {H : Hp} {v : V} {d : PyData} (h : Dq R H v d) : TyX K H v (.type (tyNm d)) := by
  cases h with
  | non => exact .base .non
  | bl b => exact .base (.bl b)
  | int i => exact .base (.int i)
  | str x => exact .base (.str x)
  | tup h t => exact .base (.tup h)
  | lst h n t => exact .base (.lst h)
theorem ev_isi {T : String} {x : Bool} (ha : Ev W H0 ta E a) (e : a.d = some d) (hk : kitB (tyNm d) T = some x) : Ev W H0 (tCB (rIsi K) (tCons ta (tCons (tC (.ty T)) tNil))) E (.f (.bool x)) :=
  ev_cb (eva_cons ha (eva_cons ev_c eva_nil)) fun vs H j q Q k => by
    obtain ⟨v, w, rfl, q1, q2⟩ := late2 q
    cases (show w = .ty T from q2)
    exact ⟨v, .ty T, .type (tyNm d), .type T, x, rfl, .ty T, tyX_of (q1.dq e), kit_ty hk, k _ H (.refl j) (.bl _)⟩
theorem kit_int : ∀ d : PyData, kitB (tyNm d) "int" = some (isInt d)
  | .none => by decide +kernel
  | .bool _ => by show kitB "bool" "int" = some true; decide +kernel
  | .int _ => by show kitB "int" "int" = some true; decide +kernel
  | .str _ => by show kitB "str" "int" = some false; decide +kernel
  | .list _ => by show kitB "list" "int" = some false; decide +kernel
  | .tuple _ => by show kitB "tuple" "int" = some false; decide +kernel
  | .dict _ => by show kitB "dict" "int" = some false; decide +kernel
theorem kit_bool : ∀ d : PyData, kitB (tyNm d) "bool" = some (isBool d)
  | .none => by decide +kernel
  | .bool _ => by show kitB "bool" "bool" = some true; decide +kernel
  | .int _ => by show kitB "int" "bool" = some false; decide +kernel
  | .str _ => by show kitB "str" "bool" = some false; decide +kernel
  | .list _ => by show kitB "list" "bool" = some false; decide +kernel
  | .tuple _ => by show kitB "tuple" "bool" = some false; decide +kernel
  | .dict _ => by show kitB "dict" "bool" = some false; decide +kernel
theorem kit_str : ∀ d : PyData, kitB (tyNm d) "str" = some (isStr d)
  | .none => by decide +kernel
  | .bool _ => by show kitB "bool" "str" = some false; decide +kernel
  | .int _ => by show kitB "int" "str" = some false; decide +kernel
  | .str _ => by show kitB "str" "str" = some true; decide +kernel
  | .list _ => by show kitB "list" "str" = some false; decide +kernel
  | .tuple _ => by show kitB "tuple" "str" = some false; decide +kernel
  | .dict _ => by show kitB "dict" "str" = some false; decide +kernel
theorem kit_tup : ∀ d : PyData, kitB (tyNm d) "tuple" = some (isTup d)
  | .none => by decide +kernel
  | .bool _ => by show kitB "bool" "tuple" = some false; decide +kernel
  | .int _ => by show kitB "int" "tuple" = some false; decide +kernel
  | .str _ => by show kitB "str" "tuple" = some false; decide +kernel
  | .list _ => by show kitB "list" "tuple" = some false; decide +kernel
  | .tuple _ => by show kitB "tuple" "tuple" = some true; decide +kernel
  | .dict _ => by show kitB "dict" "tuple" = some false; decide +kernel
theorem kit_lst : ∀ d : PyData, kitB (tyNm d) "list" = some (isLst d)
  | .none => by decide +kernel
  | .bool _ => by show kitB "bool" "list" = some false; decide +kernel
  | .int _ => by show kitB "int" "list" = some false; decide +kernel
  | .str _ => by show kitB "str" "list" = some false; decide +kernel
  | .list _ => by show kitB "list" "list" = some true; decide +kernel
  | .tuple _ => by show kitB "tuple" "list" = some false; decide +kernel
  | .dict _ => by show kitB "dict" "list" = some false; decide +kernel
theorem ev_isInt (ha : Ev W H0 ta E a) (e : a.d = some d) : Ev W H0 (tCB (rIsi K) (tCons ta (tCons (tC (.ty "int")) tNil))) E (.f (.bool (isInt d))) := ev_isi ha e (kit_int d)
theorem ev_isBool (ha : Ev W H0 ta E a) (e : a.d = some d) : Ev W H0 (tCB (rIsi K) (tCons ta (tCons (tC (.ty "bool")) tNil))) E (.f (.bool (isBool d))) := ev_isi ha e (kit_bool d)
theorem ev_isStr (ha : Ev W H0 ta E a) (e : a.d = some d) : Ev W H0 (tCB (rIsi K) (tCons ta (tCons (tC (.ty "str")) tNil))) E (.f (.bool (isStr d))) := ev_isi ha e (kit_str d)
theorem ev_isTup (ha : Ev W H0 ta E a) (e : a.d = some d) : Ev W H0 (tCB (rIsi K) (tCons ta (tCons (tC (.ty "tuple")) tNil))) E (.f (.bool (isTup d))) := ev_isi ha e (kit_tup d)
theorem ev_isLst (ha : Ev W H0 ta E a) (e : a.d = some d) : Ev W H0 (tCB (rIsi K) (tCons ta (tCons (tC (.ty "list")) tNil))) E (.f (.bool (isLst d))) := ev_isi ha e (kit_lst d)
/-- isinstance(x, (tuple, list)) -/
theorem ev_isSeq (ha : Ev W H0 ta E a) (e : a.d = some d) : Ev W H0 (tCB (rIsiT K) (tCons ta (tCons (tTup (tCons (tC (.ty "tuple")) (tCons (tC (.ty "list")) tNil))) tNil))) E (.f (.bool (isTup d || isLst d))) := fun σ H S Q k =>
  ha.late S fun v H1 n1 q1 => ⟨by show 2 ≤ sizeLine; decide, fun p hp => by
    have n2 : Nx W H1 (upd H1 p (.tup [.ty "tuple", .ty "list"])) := .new n1.2 hp _
    refine ⟨v, p, [.ty "tuple", .ty "list"], .type (tyNm d), [.type "tuple", .type "list"], isTup d || isLst d, rfl, upd_same, .cons (.ty _) (.cons (.ty _) .nil), tyX_of ((q1.next n2).dq e), ?_, k _ _ (n1.trans n2) (.bl _)⟩
    refine kitAny_cons (kit_ty (kit_tup d)) (fun hf => ?_) (fun ht => by rw [ht, Bool.true_or])
    rw [hf, Bool.false_or]
    refine kitAny_cons (kit_ty (kit_lst d)) (fun hf => ?_) (fun ht => ht)
    rw [hf]
    exact kitAny_nil⟩
def rLenZ (K : PySem.W.Frag) : List V → Hp → VK → Prop := fun xs H Q => ∃ p ys, xs = [.ref p] ∧ (SqL K H p ys ∨ SqT K H p ys) ∧ Q (.int ys.length) H
theorem call_lenZ {X : Cx} : CallR X (.builtin "len") (rLenZ X.K) := call_len_seq
theorem ev_lenB (ha : Ev W H0 ta E a) (e : a.d = some (.list ds) ∨ a.d = some (.tuple ds)) : Ev W H0 (tCB (rLenZ K) (tCons ta tNil)) E (.f (.int ds.length)) := ev_cb (eva_cons ha eva_nil) fun vs H j q Q k => by
  obtain ⟨v, rfl, q1⟩ := late1 q
  rcases e with e | e
  · cases q1.dq e with
    | lst h n t => exact ⟨_, _, rfl, .inl (SqL.of h), by rw [t.length]; exact k _ H (.refl j) (.int _)⟩
  · cases q1.dq e with
    | tup h t => exact ⟨_, _, rfl, .inr (SqT.of h), by rw [t.length]; exact k _ H (.refl j) (.int _)⟩
theorem ev_len (ha : Ev W H0 ta E (.f (.tuple ds))) : Ev W H0 (tCB (rLenZ K) (tCons ta tNil)) E (.f (.int ds.length)) := ev_lenB ha (.inr rfl)
theorem ev_lenG (ha : Ev W H0 ta E (.g ds)) : Ev W H0 (tCB (rLenZ K) (tCons ta tNil)) E (.f (.int ds.length)) := ev_lenB ha (.inl rfl)
theorem ev_lenL (ha : Ev W H0 ta E (.l ds)) : Ev W H0 (tCB (rLenZ K) (tCons ta tNil)) E (.f (.int ds.length)) := ev_lenB ha (.inl rfl)
theorem ev_all {bs : List Bool} (ha : Ev W H0 ta E (.l ds)) (e : ds = bs.map .bool) : Ev W H0 (tCB (rAll K) (tCons ta tNil)) E (.f (.bool (bs.all id))) := ev_cb (eva_cons ha eva_nil) fun vs H j q Q k => by
  subst e
  obtain ⟨v, rfl, p, xs, rfl, hp, _, t⟩ := late1 q
  have hx := t.bls
  subst hx
  exact ⟨p, bs, rfl, SqL.of hp, k _ H (.refl j) (.bl _)⟩
def rTupZ (K : PySem.W.Frag) : List V → Hp → VK → Prop := fun xs H Q => ∃ p ys, xs = [.ref p] ∧ ((SqL K H p ys ∧ ∀ l, H l = none → Q (.ref l) (upd H l (.tup ys))) ∨ (SqT K H p ys ∧ Q (.ref p) H))
theorem call_tupZ {X : Cx} : CallR X (.type "tuple") (rTupZ X.K) := call_tuple_of
theorem ev_tupOf (ha : Ev W H0 ta E a) (e : a = .l ds ∨ a = .g ds) : Ev W H0 (tCB (rTupZ K) (tCons ta tNil)) E (.f (.tuple ds)) := ev_cb (eva_cons ha eva_nil) fun vs H j q Q k => by
  obtain ⟨v, rfl, q1⟩ := late1 q
  have q1' : ∃ p xs, v = .ref p ∧ H p = some (.lst xs) ∧ ¬ W.R p ∧ FzAll H xs ds := by
    rcases e with rfl | rfl
    · exact q1
    · exact q1
  obtain ⟨p, xs, rfl, hp, _, t⟩ := q1'
  exact ⟨p, xs, rfl, .inl ⟨SqL.of hp, fun l hl => k _ _ (.new j hl _) (.tup upd_same (t.same (same_new hl _)))⟩⟩
def rLstZ (K : PySem.W.Frag) : List V → Hp → VK → Prop := fun xs H Q => ∃ p ys, xs = [.ref p] ∧ (SqL K H p ys ∨ SqT K H p ys) ∧ ∀ l, H l = none → Q (.ref l) (upd H l (.lst ys))
theorem call_lstZ {X : Cx} : CallR X (.type "list") (rLstZ X.K) := call_list_of
theorem ev_lstOf (ha : Ev W H0 ta E (.f (.tuple ds))) : Ev W H0 (tCB (rLstZ K) (tCons ta tNil)) E (.l ds) := ev_cb (eva_cons ha eva_nil) fun vs H j q Q k => by
  obtain ⟨v, rfl, q1⟩ := late1 q
  cases q1 with
  | tup hp t => exact ⟨_, _, rfl, .inr (SqT.of hp), fun l hl => k _ _ (.new j hl _) ⟨l, _, rfl, W.frn (by assumption) hl, upd_same, t.same (same_new hl _)⟩⟩
def rIntZ : List V → Hp → VK → Prop := fun xs H Q => (∃ i, xs = [.int i] ∧ Q (.int i) H) ∨ ∃ k, xs = [.bl k] ∧ Q (.int (if k then 1 else 0)) H
theorem call_intZ {X : Cx} : CallR X (.type "int") rIntZ := call_int1
theorem ev_intI {i : Int} (ha : Ev W H0 ta E (.f (.int i))) : Ev W H0 (tCB rIntZ (tCons ta tNil)) E (.f (.int i)) := ev_cb (eva_cons ha eva_nil) fun vs H j q Q k => by
  obtain ⟨v, rfl, q1⟩ := late1 q
  cases q1
  exact .inl ⟨i, rfl, k _ H (.refl j) (.int _)⟩
theorem ev_intB {x : Bool} (ha : Ev W H0 ta E (.f (.bool x))) : Ev W H0 (tCB rIntZ (tCons ta tNil)) E (.f (.int (if x then 1 else 0))) := ev_cb (eva_cons ha eva_nil) fun vs H j q Q k => by
  obtain ⟨v, rfl, q1⟩ := late1 q
  cases q1
  exact .inr ⟨x, rfl, k _ H (.refl j) (.int _)⟩
/-! + and * of sequences, slices -/
theorem Late.lstF {H : Hp} {v : V} (h : Late W H v a) (e : a = .l ds ∨ a = .g ds) : ∃ p xs, v = .ref p ∧ H p = some (.lst xs) ∧ ¬ W.R p ∧ FzAll H xs ds := by
  rcases e with rfl | rfl
  · exact h
  · exact h
theorem ev_cat (ha : Ev W H0 ta E a) (hb : Ev W H0 tb E b) (e1 : a = .l ds ∨ a = .g ds) (e2 : b = .l es ∨ b = .g es) (hl : ds.length + es.length ≤ 100000) : Ev W H0 (tOp rCat ta tb) E (.l (ds ++ es)) := ev_op ha hb fun v w H j q1 q2 Q k => by
  obtain ⟨p, xs, rfl, hp, _, t1⟩ := q1.lstF e1
  obtain ⟨q, ys, rfl, hq, _, t2⟩ := q2.lstF e2
  exact ⟨p, q, xs, ys, rfl, rfl, hp, hq, sz_le (by rw [t1.length, t2.length]; exact hl), fun l hn => k _ _ (.new j hn _) ⟨l, _, rfl, W.frn (by assumption) hn, upd_same, (t1.append t2).same (same_new hn _)⟩⟩
theorem ev_catM (ha : Ev W H0 ta E a) (hb : Ev W H0 tb E b) (e1 : a.d = some (.list ds)) (e2 : b.d = some (.list es)) (hl : ds.length + es.length ≤ 100000) : Ev W H0 (tOp rCat ta tb) E (.m (ds ++ es)) := ev_op ha hb fun v w H j q1 q2 Q k => by
  cases q1.dq e1 with
  | lst hp n1 t1 =>
    cases q2.dq e2 with
    | lst hq n2 t2 =>
      exact ⟨_, _, _, _, rfl, rfl, hp, hq, sz_le (by rw [t1.length, t2.length]; exact hl), fun l hn => k _ _ (.new j hn _) ⟨l, _, rfl, W.frn (by assumption) hn, upd_same, DqAll.keep (Kp.of_same (same_new hn _)) _ _ (t1.append t2)⟩⟩
theorem FzAll.nil_iff {H : Hp} {xs : List V} (t : FzAll H xs ds) : xs = [] ↔ ds = [] := by
  cases t with
  | nil => exact ⟨fun _ => rfl, fun _ => rfl⟩
  | cons _ _ => exact ⟨fun z => (by cases z), fun z => (by cases z)⟩
theorem ev_catT (ha : Ev W H0 ta E (.f (.tuple ds))) (hb : Ev W H0 tb E (.f (.tuple es))) (hl : ds.length + es.length ≤ 100000) : Ev W H0 (tOp (rCatA K) ta tb) E (.f (.tuple (ds ++ es))) := ev_op ha hb fun v w H j q1 q2 Q k => by
  cases q1 with
  | tup hp t1 =>
    cases q2 with
    | tup hq t2 =>
      refine ⟨_, _, _, _, rfl, rfl, SqT.of hp, SqT.of hq, sz_le (by rw [t1.length, t2.length]; exact hl), fun z => ?_, fun z y => ?_, fun z y l hn => ?_⟩
      · have e : ds ++ es = es := by rw [t1.nil_iff.mp z, List.nil_append]
        exact k _ H (.refl j) (.tup hq (by rw [e]; exact t2))
      · have e : ds ++ es = ds := by rw [t2.nil_iff.mp y, List.append_nil]
        exact k _ H (.refl j) (.tup hp (by rw [e]; exact t1))
      · exact k _ _ (.new j hn _) (.tup upd_same ((t1.append t2).same (same_new hn _)))
def cutD (ds : List PyData) (lo hi : Option Int) : List PyData := (ds.drop (HT.sIx ds.length 0 lo)).take (HT.sIx ds.length ds.length hi - HT.sIx ds.length 0 lo)
theorem evo_no : EvO W H0 tNoPart E none := fun σ H S Q k => k H (.refl S.j)
theorem evo_some {i : Int} (h : Ev W H0 ta E (.f (.int i))) : EvO W H0 (tPart ta) E (some i) := fun σ H S Q k => h.late S fun v H1 n1 q => by
  cases q
  exact ⟨i, rfl, k H1 n1⟩
theorem ev_slT {tl th : TO} {lo hi : Option Int} (ha : Ev W H0 ta E (.f (.tuple ds))) (hl : EvO W H0 tl E lo) (hh : EvO W H0 th E hi) : Ev W H0 (tSl (rSlA K) ta tl th) E (.f (.tuple (cutD ds lo hi))) := fun σ H S Q k =>
  ha.late S fun v H1 n1 q1 => hl σ H1 (S.next n1) _ fun H2 n2 => hh σ H2 ((S.next n1).next n2) _ fun H3 n3 => by
    have n := (n1.trans n2).trans n3
    have q := (q1.next n2).next n3
    cases q with
    | tup hp t =>
      refine ⟨_, _, rfl, SqT.of hp, fun z => ?_, fun z l hn => ?_⟩
      · rw [t.length] at z
        have e : cutD ds lo hi = ds := by
          unfold cutD
          rw [z.1, z.2]
          simp
        exact k _ _ n (.tup hp (by rw [e]; exact t))
      · refine k _ _ (n.trans (.new n.2 hn _)) (.tup upd_same ?_)
        unfold cutV cutD
        rw [t.length]
        exact ((t.drop _).take _).same (same_new hn _)
theorem FzAll.rep {H : Hp} {xs : List V} (t : FzAll H xs ds) : ∀ n : Nat, FzAll H (List.replicate n xs).flatten (List.replicate n ds).flatten
  | 0 => .nil
  | n + 1 => by
    rw [List.replicate_succ, List.replicate_succ, List.flatten_cons, List.flatten_cons]
    exact t.append (FzAll.rep t n)
theorem ev_rep {k : Nat} (ha : Ev W H0 ta E (.l ds)) (hb : Ev W H0 tb E (.f (.int (k : Int)))) (hk : k ≤ 1000) (hl : ds.length ≤ 100) : Ev W H0 (tOp rRep ta tb) E (.l (List.replicate k ds).flatten) := ev_op ha hb fun v w H j q1 q2 Q kk => by
  cases q2
  obtain ⟨p, xs, rfl, hp, _, t1⟩ := q1
  have h1 : xs.length * ((k : Int).toNat) ≤ sizeLine := by
    rw [t1.length]
    exact sz_le (Nat.le_trans (Nat.mul_le_mul hl (show (k : Int).toNat ≤ 1000 by omega)) (by decide))
  refine ⟨p, (k : Int), xs, rfl, rfl, hp, by omega, by omega, h1, fun l hn => kk _ _ (.new j hn _) ⟨l, _, rfl, W.frn (by assumption) hn, upd_same, ?_⟩⟩
  have e : (k : Int).toNat = k := by omega
  rw [e]
  exact (t1.rep k).same (same_new hn _)
/-! truth -/
theorem ev_andV {x y : Bool} (h1 : Ev W H0 ta E (.f (.bool x))) (h2 : x = true → Ev W H0 tb E (.f (.bool y))) : Ev W H0 (tAndV ta tb) E (.f (.bool (x && y))) := fun σ H S Q k => h1.late S fun v H1 n1 q1 => by
  cases q1
  refine ⟨x, rfl, ?_⟩
  cases x with
  | true =>
    show tb σ H1 Q
    exact h2 rfl σ H1 (S.next n1) Q fun v H' n2 r => k v H' (n1.trans n2) (r.back n1)
  | false => exact k _ H1 n1 (.bl _)
theorem ev_orV {x y : Bool} (h1 : Ev W H0 ta E (.f (.bool x))) (h2 : x = false → Ev W H0 tb E (.f (.bool y))) : Ev W H0 (tOrV ta tb) E (.f (.bool (x || y))) := fun σ H S Q k => h1.late S fun v H1 n1 q1 => by
  cases q1
  refine ⟨x, rfl, ?_⟩
  cases x with
  | true => exact k _ H1 n1 (.bl _)
  | false =>
    show tb σ H1 Q
    exact h2 rfl σ H1 (S.next n1) Q fun v H' n2 r => k v H' (n1.trans n2) (r.back n1)
theorem ev_and0 {x : Bool} (h1 : Ev W H0 ta E (.f (.bool x))) (h2 : x = false) : Ev W H0 (tAndV ta tb) E (.f (.bool false)) := (ev_andV (y := false) h1 fun z => by rw [h2] at z; cases z).is (by rw [h2]; rfl)
theorem ev_or1 {x : Bool} (h1 : Ev W H0 ta E (.f (.bool x))) (h2 : x = true) : Ev W H0 (tOrV ta tb) E (.f (.bool true)) := (ev_orV (y := true) h1 fun z => by rw [h2] at z; cases z).is (by rw [h2]; rfl)
theorem ev_notV {x : Bool} (h1 : Ev W H0 ta E (.f (.bool x))) : Ev W H0 (tNotV ta) E (.f (.bool (!x))) := fun σ H S Q k => h1.late S fun v H1 n1 q1 => by
  cases q1
  exact ⟨x, rfl, k _ H1 n1 (.bl _)⟩
theorem et_test {x : Bool} (h : Ev W H0 ta E (.f (.bool x))) : EvT W H0 (tTest ta) E x := fun σ H S Q k => h.late S fun v H1 n1 q1 => by
  cases q1
  exact ⟨x, rfl, k H1 n1⟩
theorem et_B {x : Bool} (h : Ev W H0 ta E (.f (.bool x))) : EvT W H0 (tB ta) E x := fun σ H S Q k => h.late S fun v H1 n1 q1 => by
  cases q1
  exact ⟨x, rfl, k H1 n1⟩
theorem et_and {x y : Bool} (h1 : EvT W H0 t E x) (h2 : x = true → EvT W H0 u E y) : EvT W H0 (tAnd t u) E (x && y) := fun σ H S Q k => h1 σ H S _ fun H1 n1 => by
  cases x with
  | true =>
    show u σ H1 Q
    exact h2 rfl σ H1 (S.next n1) Q fun H' n2 => k H' (n1.trans n2)
  | false => exact k H1 n1
theorem et_or {x y : Bool} (h1 : EvT W H0 t E x) (h2 : x = false → EvT W H0 u E y) : EvT W H0 (tOr t u) E (x || y) := fun σ H S Q k => h1 σ H S _ fun H1 n1 => by
  cases x with
  | true => exact k H1 n1
  | false =>
    show u σ H1 Q
    exact h2 rfl σ H1 (S.next n1) Q fun H' n2 => k H' (n1.trans n2)
theorem et_and0 {x : Bool} (h1 : EvT W H0 t E x) (h2 : x = false) : EvT W H0 (tAnd t u) E false := (et_and (y := false) h1 fun z => by rw [h2] at z; cases z).is (by rw [h2]; rfl)
theorem et_or1 {x : Bool} (h1 : EvT W H0 t E x) (h2 : x = true) : EvT W H0 (tOr t u) E true := (et_or (y := true) h1 fun z => by rw [h2] at z; cases z).is (by rw [h2]; rfl)
theorem et_not {x : Bool} (h1 : EvT W H0 t E x) : EvT W H0 (tNot t) E (!x) := fun σ H S Q k => h1 σ H S _ fun H1 n1 => k H1 n1
theorem et_yes : EvT W H0 tYes E true := fun σ H S Q k => k H (.refl S.j)
/-- a <= b <= c -/
theorem ev_chain {g g' : Int → Int → Bool} {i j l : Int} (ha : Ev W H0 ta E (.f (.int i))) (hb : Ev W H0 tb E (.f (.int j))) (hc : Ev W H0 tc E (.f (.int l))) :
    Ev W H0 (tChain (rI0 fun i j => .bl (g i j)) (rI0 fun i j => .bl (g' i j)) ta tb tc) E (.f (.bool (g i j && g' j l))) := fun σ H S Q k => ha.late S fun v H1 n1 q1 => hb.late (S.next n1) fun w H2 n2 q2 => by
  cases q1
  cases q2
  refine ⟨i, j, rfl, rfl, g i j, rfl, ?_⟩
  cases hg : g i j with
  | true =>
    show tc σ H2 _
    refine hc.late ((S.next n1).next n2) fun x H3 n3 q3 => ?_
    cases q3
    refine ⟨j, l, rfl, rfl, k _ H3 ((n1.trans n2).trans n3) ?_⟩
    rw [hg, Bool.true_and]
    exact .bl _
  | false =>
    refine k _ H2 (n1.trans n2) ?_
    rw [hg, Bool.false_and]
    exact .bl _
theorem ev_if {x : Bool} (h : EvT W H0 t E x) (h1 : x = true → Ev W H0 ta E a) (h2 : x = false → Ev W H0 tb E a) : Ev W H0 (tIf t ta tb) E a := fun σ H S Q k => h σ H S _ fun H1 n1 => by
  cases x with
  | true =>
    show ta σ H1 Q
    exact h1 rfl σ H1 (S.next n1) Q fun v H' n2 r => k v H' (n1.trans n2) (r.back n1)
  | false =>
    show tb σ H1 Q
    exact h2 rfl σ H1 (S.next n1) Q fun v H' n2 r => k v H' (n1.trans n2) (r.back n1)
theorem ev_ifT {x : Bool} (h : EvT W H0 t E x) (hx : x = true) (h1 : Ev W H0 ta E a) : Ev W H0 (tIf t ta tb) E a := ev_if h (fun _ => h1) fun z => by rw [hx] at z; cases z
theorem ev_ifF {x : Bool} (h : EvT W H0 t E x) (hx : x = false) (h1 : Ev W H0 tb E a) : Ev W H0 (tIf t ta tb) E a := ev_if h (fun z => by rw [hx] at z; cases z) fun _ => h1
end
end K00

/-! Part St. -/
set_option Elab.async false
set_option linter.all false
set_option autoImplicit false
set_option maxRecDepth 100000
set_option maxHeartbeats 4000000
/-! What readings evaluate to, as data: what is walked, comprehensions, statements, loops, calls, promises. -/
namespace K00
open PySem PySem.Spec PyProof.Rows L2

/-! ### what is walked -/
/-- J goes through src, wherever C holds -/
structure Src (W : Wd) (C : Hp → Prop) (J : It) (src : List AR) : Prop where
  go : ∀ (i : Nat) (H : Hp), C H → i < src.length → J.go i H
  yld : ∀ (i : Nat) (H : Hp) (x : V) (H' : Hp), C H → J.yld i H x H' → H' = H ∧ ∀ a, src[i]? = some a → Late W H x a
  stop : ∀ (i : Nat) (H : Hp), C H → src.length ≤ i → J.stop i H
def EvI (W : Wd) (H0 : Hp) (wi : TI) (E : List AV) (src : List AR) : Prop := ∀ (σ : L2.St) (H : Hp), Sat W H0 E σ H → ∀ R : It → Hp → Prop, (∀ (J : It) (H1 : Hp), Nx W H H1 → Src W (Nx W H1) J src → R J H1) → wi σ H R
section
variable {W : Wd} {H0 : Hp} {K : PySem.W.Frag} {E : List AV} {ta tb te : TE} {a : AR} {ds : List PyData}
theorem src_range {C : Hp → Prop} (lo : Int) (n : Nat) : Src W C (Itr lo n) ((List.range n).map fun i => .f (.int (lo + (i : Nat)))) := by
  refine ⟨fun i H _ h => ?_, fun i H x H' _ h => ?_, fun i H _ h => ?_⟩
  · rw [List.length_map, List.length_range] at h
    exact h
  · obtain ⟨e, q⟩ := h
    refine ⟨e, fun a ha => ?_⟩
    rw [List.getElem?_map] at ha
    cases hr : (List.range n)[i]? with
    | none =>
      rw [hr] at ha
      cases ha
    | some k =>
      rw [hr] at ha
      have hk : k = i := by
        obtain ⟨h1, h2⟩ := List.getElem?_eq_some_iff.mp hr
        rw [List.getElem_range] at h2
        exact h2.symm
      cases ha
      rw [q, hk]
      exact .int _
  · rw [List.length_map, List.length_range] at h
    exact h
theorem late_at {H : Hp} {xs : List V} (t : FzAll H xs ds) {i : Nat} {x : V} (hx : xs[i]? = some x) {a : AR} (ha : (ds.map AR.f)[i]? = some a) : Late W H x a := by
  obtain ⟨d, h1, h2⟩ := t.at hx
  rw [List.getElem?_map, h1] at ha
  cases ha
  exact h2
theorem late_atB {H : Hp} {xs : List V} (t : DqAll W.R H xs ds) {i : Nat} {x : V} (hx : xs[i]? = some x) {a : AR} (ha : (ds.map AR.b)[i]? = some a) : Late W H x a := by
  obtain ⟨d, h1, h2⟩ := t.at hx
  rw [List.getElem?_map, h1] at ha
  cases ha
  exact h2
theorem src_tup {C : Hp → Prop} {p : Addr} {xs : List V} (hC : ∀ H, C H → H p = some (.tup xs) ∧ FzAll H xs ds) : Src W C (Itt K p) (ds.map .f) := by
  have inj : ∀ {H : Hp} {ys : List V}, C H → SqT K H p ys → True := fun _ _ => trivial
  refine ⟨fun i H c h => ?_, fun i H x H' c h => ?_, fun i H c h => ?_⟩
  · obtain ⟨hp, t⟩ := hC H c
    rw [List.length_map, ← t.length] at h
    exact ⟨xs, xs[i], SqT.of hp, List.getElem?_eq_getElem h⟩
  · obtain ⟨hp, t⟩ := hC H c
    obtain ⟨e, q⟩ := h
    exact ⟨e, fun a ha => late_at t (q xs (SqT.of hp)) ha⟩
  · obtain ⟨hp, t⟩ := hC H c
    rw [List.length_map, ← t.length] at h
    exact ⟨xs, SqT.of hp, h⟩
theorem src_lst {C : Hp → Prop} {p : Addr} (hC : ∀ H, C H → ∃ xs, H p = some (.lst xs) ∧ FzAll H xs ds) : Src W C (Itl K p) (ds.map .f) := by
  refine ⟨fun i H c h => ?_, fun i H x H' c h => ?_, fun i H c h => ?_⟩
  · obtain ⟨xs, hp, t⟩ := hC H c
    rw [List.length_map, ← t.length] at h
    exact ⟨xs, xs[i], SqL.of hp, List.getElem?_eq_getElem h⟩
  · obtain ⟨xs, hp, t⟩ := hC H c
    obtain ⟨e, q⟩ := h
    exact ⟨e, fun a ha => late_at t (q xs (SqL.of hp)) ha⟩
  · obtain ⟨xs, hp, t⟩ := hC H c
    rw [List.length_map, ← t.length] at h
    exact ⟨xs, SqL.of hp, h⟩
theorem src_lstB {C : Hp → Prop} {p : Addr} (hC : ∀ H, C H → ∃ xs, H p = some (.lst xs) ∧ DqAll W.R H xs ds) : Src W C (Itl K p) (ds.map .b) := by
  refine ⟨fun i H c h => ?_, fun i H x H' c h => ?_, fun i H c h => ?_⟩
  · obtain ⟨xs, hp, t⟩ := hC H c
    rw [List.length_map, ← t.length] at h
    exact ⟨xs, xs[i], SqL.of hp, List.getElem?_eq_getElem h⟩
  · obtain ⟨xs, hp, t⟩ := hC H c
    obtain ⟨e, q⟩ := h
    exact ⟨e, fun a ha => late_atB t (q xs (SqL.of hp)) ha⟩
  · obtain ⟨xs, hp, t⟩ := hC H c
    rw [List.length_map, ← t.length] at h
    exact ⟨xs, SqL.of hp, h⟩
def rangeR (lo hi : Int) : List PyData := (List.range (hi - lo).toNat).map fun i => .int (lo + (i : Nat))
theorem rangeR_f (lo hi : Int) : ((List.range (hi - lo).toNat).map fun i => AR.f (.int (lo + (i : Nat)))) = (rangeR lo hi).map .f := by
  unfold rangeR
  rw [List.map_map]
  rfl
theorem evi_rng1 {n : Int} (h : Ev W H0 te E (.f (.int n))) (hn : 0 ≤ n ∧ n ≤ 100000) : EvI W H0 (iRng1 (tCons te tNil)) E ((rangeR 0 n).map .f) := fun σ H S R k =>
  h.late S fun v H1 n1 q => by
    cases q
    refine ⟨n, rfl, by omega, by omega, k _ H1 n1 ?_⟩
    have e := src_range (W := W) (C := Nx W H1) 0 n.toNat
    have z := rangeR_f 0 n
    rw [Int.sub_zero] at z
    rw [z] at e
    exact e
theorem evi_rng2 {m n : Int} (h1 : Ev W H0 ta E (.f (.int m))) (h2 : Ev W H0 tb E (.f (.int n))) (hn : (-100000 ≤ m ∧ m ≤ 100000) ∧ -100000 ≤ n ∧ n ≤ 100000) : EvI W H0 (iRng2 (tCons ta (tCons tb tNil))) E ((rangeR m n).map .f) := fun σ H S R k =>
  h1.late S fun v H1 n1 q1 => h2.late (S.next n1) fun w H2 n2 q2 => by
    cases q1
    cases q2
    refine ⟨m, n, rfl, ⟨by omega, by omega, by omega, by omega⟩, k _ H2 (n1.trans n2) ?_⟩
    have e := src_range (W := W) (C := Nx W H2) m (n - m).toNat
    rw [rangeR_f] at e
    exact e
theorem evi_tup (h : Ev W H0 te E (.f (.tuple ds))) : EvI W H0 (iTup K te) E (ds.map .f) := fun σ H S R k =>
  h.late S fun v H1 n1 q => by
    cases q with
    | tup hp t => exact ⟨_, rfl, ⟨_, SqT.of hp⟩, k _ H1 n1 (src_tup fun H2 n => ⟨n.1.tups _ _ hp, t.to n.1⟩)⟩
theorem evi_lst (h : Ev W H0 te E a) (e : a = .l ds ∨ a = .g ds) : EvI W H0 (iList K te) E (ds.map .f) := fun σ H S R k =>
  h.late S fun v H1 n1 q => by
    obtain ⟨p, xs, rfl, hp, nr, t⟩ := q.lstF e
    exact ⟨_, rfl, ⟨_, SqL.of hp⟩, k _ H1 n1 (src_lst fun H2 n => ⟨xs, n.1.lst hp nr, t.to n.1⟩)⟩
theorem evi_lstB (h : Ev W H0 te E a) (e : a.d = some (.list ds)) : EvI W H0 (iList K te) E (ds.map .b) := fun σ H S R k =>
  h.late S fun v H1 n1 q => by
    cases q.dq e with
    | lst hp nr t => exact ⟨_, rfl, ⟨_, SqL.of hp⟩, k _ H1 n1 (src_lstB fun H2 n => ⟨_, n.1.lst hp nr, DqAll.keep n.1 _ _ t⟩)⟩
end

/-! ### comprehensions -/
def wipeE (E : List AV) : List Nat → List AV
  | [] => E
  | v :: vs => (wipeE E vs).set v .no
section
variable {W : Wd} {H0 H : Hp} {K : PySem.W.Frag} {E : List AV} {σ : L2.St}
theorem Sat.wipe (S : Sat W H0 E σ H) : ∀ vs : List Nat, Sat W H0 (wipeE E vs) (L2.wipe σ vs) H
  | [] => S
  | v :: vs => (S.wipe vs).clear v none
theorem wipe_get (σ : L2.St) : ∀ (vs : List Nat) (i : Nat), (L2.wipe σ vs)[i]? = if i ∈ vs then (if i < σ.length then some none else none) else σ[i]?
  | [], i => by simp [L2.wipe]
  | v :: vs, i => by
    show ((L2.wipe σ vs).set v none)[i]? = _
    by_cases h : v = i
    · subst h
      rw [if_pos List.mem_cons_self]
      by_cases hl : v < σ.length
      · rw [if_pos hl, List.getElem?_set_self (by rw [wipe_length]; exact hl)]
      · rw [if_neg hl, List.getElem?_eq_none (by rw [List.length_set, wipe_length]; omega)]
    · rw [List.getElem?_set_ne h, wipe_get σ vs i]
      have e : (i ∈ v :: vs) ↔ i ∈ vs := by
        rw [List.mem_cons]
        exact ⟨fun z => z.resolve_left fun y => h y.symm, .inr⟩
      by_cases hm : i ∈ vs
      · rw [if_pos hm, if_pos (e.mpr hm)]
      · rw [if_neg hm, if_neg (fun z => hm (e.mp z))]
theorem wipe_set (σ : L2.St) (vs : List Nat) {j : Nat} (o : Option V) (hj : j ∈ vs) : L2.wipe ((L2.wipe σ vs).set j o) vs = L2.wipe σ vs := by
  apply List.ext_getElem?
  intro i
  rw [wipe_get, wipe_get σ vs i]
  by_cases hm : i ∈ vs
  · rw [if_pos hm, if_pos hm, List.length_set, wipe_length]
  · rw [if_neg hm, if_neg hm, List.getElem?_set_ne (fun z => hm (by rw [← z]; exact hj)), wipe_get, if_neg hm]
/-- the list at D so far -/
def Cw (W : Wd) (H1 : Hp) (D : Addr) (ds : List PyData) (H : Hp) : Prop := Nx W H1 H ∧ ∃ acc, H D = some (.lst acc) ∧ FzAll H acc ds
theorem Cw.more {H1 H2 : Hp} {D : Addr} {ds : List PyData} {d : PyData} {y : V} (j1 : W.J H1) (hD : H1 D = none) (c : Cw W H1 D ds H) (n : Nx W H H2) (q : Fz H2 y d) (hl : ds.length < 100000) :
    ∃ acc, H2 D = some (.lst acc) ∧ acc.length < sizeLine ∧ Cw W H1 D (ds ++ [d]) (upd H2 D (.lst (acc ++ [y]))) := by
  obtain ⟨n1, acc, hp, t⟩ := c
  have hp2 : H2 D = some (.lst acc) := n.1.lst hp (W.nr j1 hD)
  have kt : ∀ a zs, H2 a = some (.tup zs) → upd H2 D (.lst (acc ++ [y])) a = some (.tup zs) := fun a zs z => by
    rw [upd_ne (ne_of z hp2 (by intro y; cases y))]
    exact z
  refine ⟨acc, hp2, sz_lt' (by rw [t.length]; exact hl), (n1.trans n).upd (W.frn j1 hD) hp2, _, upd_same, FzAll.keep kt _ _ ((t.to n.1).append (.cons q .nil))⟩
theorem Cw.start {D : Addr} (j : W.J H) (hD : H D = none) : Cw W H D [] (upd H D (.lst [])) := ⟨.new j hD _, [], upd_same, .nil⟩
/-- one turn's end, the rest of the comprehension's walk -/
theorem lc_src {J : It} {C : Hp → Prop} {src : List AR} {g : TG} {tt : TT} {te : TE} {vs : List Nat} {H1 : Hp} {D : Addr} {Qd : Hp → Prop} (Pv : Nat → Hp → Prop) (s : Src W C J src) (hC : ∀ i H, Pv i H → C H) (h0 : Pv 0 (upd H1 D (.lst [])))
    (hs : ∀ i a x H, src[i]? = some a → Pv i H → Late W H x a → g x (L2.wipe σ vs) H fun σ2 H2 => L2.wipe σ2 vs = L2.wipe σ vs ∧ tt σ2 H2 fun b H3 =>
      if b = true then te σ2 H3 fun y H4 => ∃ acc, H4 D = some (.lst acc) ∧ acc.length < sizeLine ∧ Pv (i + 1) (upd H4 D (.lst (acc ++ [y]))) else Pv (i + 1) H3) (hd : ∀ H, Pv src.length H → Qd H) :
    ∃ W : Nat → Nat → Hp → Prop, (∃ m, W 0 m (upd H1 D (.lst []))) ∧ ∀ i m H, W i m H →
      (J.stop i H ∧ Qd H) ∨ (J.go i H ∧ ∃ Nx : Hp → Prop, (∀ H', Nx H' → ∃ m', m' < m ∧ W (i + 1) m' H') ∧ ∀ x H', J.yld i H x H' → g x (L2.wipe σ vs) H' fun σ2 H2 => L2.wipe σ2 vs = L2.wipe σ vs ∧ tt σ2 H2 fun b H3 =>
        if b = true then te σ2 H3 fun y H4 => ∃ acc, H4 D = some (.lst acc) ∧ acc.length < sizeLine ∧ Nx (upd H4 D (.lst (acc ++ [y]))) else Nx H3) := by
  refine ⟨fun i m H => m = src.length - i ∧ i ≤ src.length ∧ Pv i H, ⟨src.length, by simp, Nat.zero_le _, h0⟩, ?_⟩
  rintro i m H ⟨rfl, hi, p⟩
  by_cases hlt : i < src.length
  · refine .inr ⟨s.go i H (hC i H p) hlt, Pv (i + 1), fun H' p' => ⟨src.length - (i + 1), by omega, rfl, hlt, p'⟩, fun x H' y => ?_⟩
    obtain ⟨e, q⟩ := s.yld i H x H' (hC i H p) y
    subst e
    exact hs i src[i] x _ (List.getElem?_eq_getElem hlt) p (q _ (List.getElem?_eq_getElem hlt))
  · have e : i = src.length := by omega
    subst e
    exact .inl ⟨s.stop _ H (hC _ H p) (Nat.le_refl _), hd H p⟩
/-- [v(x) for x in src if f(x)], all frozen -/
theorem ev_lc {wi : TI} {tt : TT} {te : TE} {j : Nat} {vs : List Nat} {src : List PyData} (f : PyData → Bool) (v : PyData → PyData) (hi : EvI W H0 wi E (src.map .f)) (hj : j ∈ vs) (hl : src.length ≤ 50000)
    (ht : ∀ d ∈ src, EvT W H0 tt ((wipeE E vs).set j (.dat d)) (f d)) (he : ∀ d ∈ src, f d = true → Ev W H0 te ((wipeE E vs).set j (.dat d)) (.f (v d))) :
    Ev W H0 (tLc wi (gName j) tt te vs) E (.l ((src.filter f).map v)) := fun σ H S Q k => hi σ H S _ fun J H1 n1 s => fun D hD => by
  refine lc_src (fun i H => Cw W H1 D (((src.take i).filter f).map v) H) s (fun i H c => c.1) (Cw.start n1.2 hD) (fun i a x H2 hi c q => ?_) (fun H2 c => ?_)
  · have hsrc : ∃ d, src[i]? = some d ∧ a = .f d := by
      rw [List.getElem?_map] at hi
      cases e : src[i]? with
      | none =>
        rw [e] at hi
        cases hi
      | some d =>
        rw [e] at hi
        exact ⟨d, rfl, (Option.some.inj hi).symm⟩
    obtain ⟨d, hd, rfl⟩ := hsrc
    have hmem : d ∈ src := List.mem_of_getElem? hd
    have hlt : i < src.length := (List.getElem?_eq_some_iff.mp hd).1
    have htake : src.take (i + 1) = src.take i ++ [d] := by
      rw [List.take_succ, hd]
      rfl
    have S2 : Sat W H0 ((wipeE E vs).set j (.dat d)) ((L2.wipe σ vs).set j (some x)) H2 := (((S.next n1).next c.1).wipe vs).set ⟨x, rfl, q⟩ fun _ _ z => by cases z
    have hlen : (((src.take i).filter f).map v).length < 100000 := by
      rw [List.length_map]
      have h1 := List.length_filter_le f (src.take i)
      rw [List.length_take] at h1
      omega
    refine ⟨wipe_set σ vs _ hj, ht d hmem _ H2 S2 _ fun H3 n3 => ?_⟩
    cases hf : f d with
    | true =>
      show te _ H3 _
      refine he d hmem hf _ H3 (S2.next n3) _ fun y H4 n4 q4 => ?_
      have h5 := c.more n1.2 hD (n3.trans n4) q4 hlen
      rw [htake, List.filter_append, List.map_append, List.filter_cons, if_pos hf]
      exact h5
    | false =>
      show Cw W H1 D _ H3
      rw [htake, List.filter_append, List.map_append, List.filter_cons, if_neg (by rw [hf]; decide)]
      obtain ⟨c1, acc, c2, c3⟩ := c
      rw [show ([] : List PyData).filter f = [] from rfl, List.map_nil, List.append_nil]
      exact ⟨c1.trans n3, acc, n3.1.lst c2 (W.nr n1.2 hD), c3.to n3.1⟩
  · rw [List.length_map, List.take_length] at c
    obtain ⟨c1, acc, c2, c3⟩ := c
    exact k _ H2 (n1.trans c1) ⟨D, acc, rfl, n1.fresh hD, c2, c3⟩
/-- [v(x) for x in src] -/
theorem ev_lc1 {wi : TI} {te : TE} {j : Nat} {vs : List Nat} {src : List PyData} (v : PyData → PyData) (hi : EvI W H0 wi E (src.map .f)) (hj : j ∈ vs) (hl : src.length ≤ 50000)
    (he : ∀ d ∈ src, Ev W H0 te ((wipeE E vs).set j (.dat d)) (.f (v d))) : Ev W H0 (tLc wi (gName j) tYes te vs) E (.l (src.map v)) := by
  have h := ev_lc (tt := tYes) (te := te) (fun _ => true) v hi hj hl (fun d _ => et_yes) (fun d hd _ => he d hd)
  rw [List.filter_eq_self.mpr fun _ _ => rfl] at h
  exact h
/-- drawn elements: each is as P says -/
def EvN (W : Wd) (H0 : Hp) (te : TE) (E : List AV) (P : PyData → Prop) : Prop := ∀ (σ : L2.St) (H : Hp), Sat W H0 E σ H → ∀ Q : VK, (∀ d v H', P d → Nx W H H' → Fz H' v d → Q v H') → te σ H Q
def EvNL (W : Wd) (H0 : Hp) (te : TE) (E : List AV) (P : List PyData → Prop) : Prop := ∀ (σ : L2.St) (H : Hp), Sat W H0 E σ H → ∀ Q : VK, (∀ ds v H', P ds → Nx W H H' → Res W H H' v (.l ds) → Q v H') → te σ H Q
theorem evn_lc {wi : TI} {te : TE} {j : Nat} {vs : List Nat} {src : List PyData} {P : PyData → Prop} (hi : EvI W H0 wi E (src.map .f)) (hj : j ∈ vs) (hl : src.length ≤ 50000)
    (he : ∀ d ∈ src, EvN W H0 te ((wipeE E vs).set j (.dat d)) P) : EvNL W H0 (tLc wi (gName j) tYes te vs) E (fun ds => ds.length = src.length ∧ ∀ d ∈ ds, P d) := fun σ H S Q k => hi σ H S _ fun J H1 n1 s => fun D hD => by
  refine lc_src (fun i H => ∃ ds : List PyData, i ≤ src.length ∧ ds.length = i ∧ (∀ d ∈ ds, P d) ∧ Cw W H1 D ds H) s (fun i H c => by obtain ⟨_, _, _, _, c⟩ := c; exact c.1) ⟨[], Nat.zero_le _, rfl, (fun _ h => by cases h), Cw.start n1.2 hD⟩ (fun i a x H2 hi c q => ?_) (fun H2 c => ?_)
  · have hsrc : ∃ d, src[i]? = some d ∧ a = .f d := by
      rw [List.getElem?_map] at hi
      cases e : src[i]? with
      | none =>
        rw [e] at hi
        cases hi
      | some d =>
        rw [e] at hi
        exact ⟨d, rfl, (Option.some.inj hi).symm⟩
    obtain ⟨d, hd, rfl⟩ := hsrc
    have hlt : i < src.length := (List.getElem?_eq_some_iff.mp hd).1
    obtain ⟨ds, c0, cl, cp, c⟩ := c
    have S2 : Sat W H0 ((wipeE E vs).set j (.dat d)) ((L2.wipe σ vs).set j (some x)) H2 := (((S.next n1).next c.1).wipe vs).set ⟨x, rfl, q⟩ fun _ _ z => by cases z
    refine ⟨wipe_set σ vs _ hj, ?_⟩
    show te _ H2 _
    refine he d (List.mem_of_getElem? hd) _ H2 S2 _ fun y v H4 py n4 q4 => ?_
    obtain ⟨acc, h1, h2, h3⟩ := c.more n1.2 hD n4 q4 (by omega)
    refine ⟨acc, h1, h2, ds ++ [y], hlt, by rw [List.length_append, cl]; rfl, fun z hz => ?_, h3⟩
    rcases List.mem_append.mp hz with z1 | z1
    · exact cp z z1
    · rw [List.mem_singleton.mp z1]
      exact py
  · rw [List.length_map] at c
    obtain ⟨ds, c0, cl, cp, c1, acc, c2, c3⟩ := c
    exact k ds _ H2 ⟨cl, cp⟩ (n1.trans c1) ⟨D, acc, rfl, n1.fresh hD, c2, c3⟩
theorem Ev.n {te : TE} {d : PyData} {P : PyData → Prop} (h : Ev W H0 te E (.f d)) (p : P d) : EvN W H0 te E P := fun σ H S Q k => h σ H S Q fun v H' n q => k d v H' p n q
theorem Sat.dat (S : Sat W H0 E σ H) {i : Nat} {v : V} {d : PyData} (q : Fz H v d) : Sat W H0 (E.set i (.dat d)) (σ.set i (some v)) H := S.set (a := .dat d) ⟨v, rfl, q⟩ fun _ _ z => by cases z
theorem Sat.genq (S : Sat W H0 E σ H) {i : Nat} {v : V} {d : PyData} (q : Dq W.R H v d) : Sat W H0 (E.set i (.gen d)) (σ.set i (some v)) H := S.set (a := .gen d) ⟨v, rfl, q⟩ fun _ _ z => by cases z
end

/-! ### statements -/
def Go (W : Wd) (H0 : Hp) (ts : TS) (D : Ends) (E : List AV) : Prop := ∀ (σ : L2.St) (H : Hp), Sat W H0 E σ H → ts D σ H
/-- what is wanted of a value handed back -/
def Ret (W : Wd) (H0 : Hp) (D : Ends) (c : AR) : Prop := ∀ (v : V) (H' : Hp), Nx W H0 H' → Res W H0 H' v c → D.rt v H'
section
variable {W : Wd} {H0 : Hp} {K : PySem.W.Frag} {E : List AV} {ta tb te : TE} {t : TT} {ts tu tw tz : TS} {D : Ends} {a c : AR} {d e : PyData} {ds es : List PyData} {i j l : Nat}
theorem go_seq (h : Go W H0 ts { D with nx := tu D } E) : Go W H0 (tSeq ts tu) D E := h
theorem st_next (k : ∀ σ H, Sat W H0 E σ H → D.nx σ H) : Go W H0 tNext D E := k
theorem st_ret (h : Ev W H0 te E c) (k : Ret W H0 D c) : Go W H0 (tRet te) D E := fun σ H S => h σ H S _ fun v H' n r => k v H' (S.nx.trans n) (r.back S.nx)
theorem st_retOwn {p : Addr} (h : E[i]? = some (.own p ds)) (k : Ret W H0 D (.l ds)) : Go W H0 (tRet (tVar i)) D E := fun σ H S => by
  obtain ⟨o, e1, e2, h0, xs, hp, t⟩ := S.slot h
  exact ⟨.ref p, by rw [e1, e2], k _ H S.nx ⟨p, xs, rfl, h0, hp, t⟩⟩
theorem st_if {b : Bool} (h : EvT W H0 t E b) (h1 : b = true → Go W H0 tu D E) (h2 : b = false → Go W H0 tw D E) : Go W H0 (tIfS t tu tw) D E := fun σ H S => h σ H S _ fun H1 n1 => by
  cases b with
  | true =>
    show tu D σ H1
    exact h1 rfl σ H1 (S.next n1)
  | false =>
    show tw D σ H1
    exact h2 rfl σ H1 (S.next n1)
theorem Ret.on {H1 : Hp} {D' : Ends} (k : Ret W H0 D c) (n : Nx W H0 H1) (e : D'.rt = D.rt) : Ret W H1 D' c := fun v H' n2 q => by
  rw [e]
  exact k v H' (n.trans n2) (q.back n)
theorem Ret.eq {D' : Ends} {c' : AR} (k : Ret W H0 D c) (e : c = c') (er : D'.rt = D.rt) : Ret W H0 D' c' := fun v H' n q => by
  subst e
  rw [er]
  exact k v H' n q
theorem go_wk {E' : List AV} (h : Wk E' E) (g : Go W H0 ts D E') : Go W H0 ts D E := fun σ H S => g σ H (S.wk h)
theorem st_ifT {b : Bool} (h : EvT W H0 t E b) (hb : b = true) (h1 : Go W H0 tu D E) : Go W H0 (tIfS t tu tw) D E := st_if h (fun _ => h1) fun z => by rw [hb] at z; cases z
theorem st_ifF {b : Bool} (h : EvT W H0 t E b) (hb : b = false) (h1 : Go W H0 tw D E) : Go W H0 (tIfS t tu tw) D E := st_if h (fun z => by rw [hb] at z; cases z) fun _ => h1
theorem st_asgF (h : Ev W H0 te E (.f d)) (k : ∀ σ H, Sat W H0 (E.set i (.dat d)) σ H → D.nx σ H) : Go W H0 (tAsg te (gName i)) D E := fun σ H S => h σ H S _ fun v H1 n1 q =>
  k _ H1 ((S.next n1).dat q)
theorem st_asgN {P : PyData → Prop} (h : EvN W H0 te E P) (k : ∀ d, P d → ∀ σ H, Sat W H0 (E.set i (.dat d)) σ H → D.nx σ H) : Go W H0 (tAsg te (gName i)) D E := fun σ H S => h σ H S _ fun d v H1 p n1 q =>
  k d p _ H1 ((S.next n1).dat q)
theorem st_asgB (h : Ev W H0 te E a) (e : a.d = some d) (k : ∀ σ H, Sat W H0 (E.set i (.gen d)) σ H → D.nx σ H) : Go W H0 (tAsg te (gName i)) D E := fun σ H S => h.late S fun v H1 n1 q =>
  k _ H1 ((S.next n1).genq (q.dq e))
theorem st_asgL (h : Ev W H0 te E (.l ds)) (k : ∀ p σ H, Sat W H0 (E.set i (.own p ds)) σ H → D.nx σ H) : Go W H0 (tAsg te (gName i)) D E := fun σ H S => h σ H S _ fun v H1 n1 q => by
  obtain ⟨p, xs, rfl, hn, hp, t⟩ := q
  exact k p _ H1 (S.setOwn n1 hn hp t)
theorem st_asgNL {P : List PyData → Prop} (h : EvNL W H0 te E P) (k : ∀ ds, P ds → ∀ p σ H, Sat W H0 (E.set i (.own p ds)) σ H → D.nx σ H) : Go W H0 (tAsg te (gName i)) D E := fun σ H S => h σ H S _ fun ds v H1 pd n1 q => by
  obtain ⟨p, xs, rfl, hn, hp, t⟩ := q
  exact k ds pd p _ H1 (S.setOwn n1 hn hp t)
theorem st_asgR {v : V} (h : Ev W H0 te E (.r v)) (k : ∀ σ H, Sat W H0 (E.set i (.raw v)) σ H → D.nx σ H) : Go W H0 (tAsg te (gName i)) D E := fun σ H S => h σ H S _ fun w H1 n1 q => by
  cases q
  exact k _ H1 ((S.next n1).set rfl fun _ _ z => by cases z)
theorem st_drop (h : Ev W H0 te E a) (k : ∀ σ H, Sat W H0 E σ H → D.nx σ H) : Go W H0 (tDrop te) D E := fun σ H S => h σ H S _ fun v H1 n1 q => k _ H1 (S.next n1)
/-- i, j = a pair -/
theorem st_two (h : Ev W H0 te E (.f (.tuple [d, e]))) (k : ∀ σ H, Sat W H0 ((E.set i (.dat d)).set j (.dat e)) σ H → D.nx σ H) : Go W H0 (tAsg te (gTup K 2 (gCons (gName i) (gCons (gName j) gNil)))) D E := fun σ H S => h σ H S _ fun v H1 n1 q => by
  cases q with
  | tup hp t =>
    cases t with
    | cons q1 t =>
      cases t with
      | cons q2 t =>
        cases t
        exact ⟨_, _, rfl, SqT.of hp, rfl, _, _, rfl, _, _, rfl, rfl, k _ H1 (((S.next n1).dat q1).dat q2)⟩
/-- i, j = x, y -/
theorem st_par {x y : PyData} (h : EvA W H0 (tCons ta (tCons tb tNil)) E [.f x, .f y]) (k : ∀ σ H, Sat W H0 ((E.set i (.dat x)).set j (.dat y)) σ H → D.nx σ H) : Go W H0 (tPar i j (tCons ta (tCons tb tNil))) D E := fun σ H S => h σ H S _ fun vs H1 n1 q => by
  obtain ⟨v, w, rfl, q1, q2⟩ := late2 q
  exact ⟨v, w, rfl, k _ H1 (((S.next n1).dat q1).dat q2)⟩
theorem st_par3 {x y z : PyData} {tc : TE} (h : EvA W H0 (tCons ta (tCons tb (tCons tc tNil))) E [.f x, .f y, .f z]) (k : ∀ σ H, Sat W H0 (((E.set i (.dat x)).set j (.dat y)).set l (.dat z)) σ H → D.nx σ H) : Go W H0 (tPar3 i j l (tCons ta (tCons tb (tCons tc tNil)))) D E := fun σ H S => h σ H S _ fun vs H1 n1 q => by
  obtain ⟨u, v, w, rfl, q1, q2, q3⟩ := late3 q
  exact ⟨u, v, w, rfl, k _ H1 ((((S.next n1).dat q1).dat q2).set ⟨_, rfl, q3⟩ fun _ _ z => by cases z)⟩
/-! lists of one's own -/
theorem own_at {p : Addr} {σ : L2.St} {H : Hp} (S : Sat W H0 E σ H) (h : E[i]? = some (.own p ds)) : σ[i]? = some (some (.ref p)) ∧ ∃ xs, H p = some (.lst xs) ∧ FzAll H xs ds := by
  obtain ⟨o, e1, e2, h0, xs, hp, t⟩ := S.slot h
  exact ⟨by rw [e1, e2], xs, hp, t⟩
/-- x.append(e) -/
theorem st_append {p : Addr} (ho : E[i]? = some (.own p ds)) (hg : ∀ a ∈ E, ∀ d, a ≠ .gen d) (h : Ev W H0 te E (.f d)) (hl : ds.length < 100000) (k : ∀ σ H, Sat W H0 (E.set i (.own p (ds ++ [d]))) σ H → D.nx σ H) :
    Go W H0 (tDrop (tBM K "list" rAppend (tVar i) (tCons te tNil))) D E := fun σ H S => by
  obtain ⟨e1, xs0, hp0, t0⟩ := own_at S ho
  refine ⟨_, e1, .inl ⟨rfl, xs0, SqL.of hp0⟩, h σ H S _ fun v H1 n1 q => ?_⟩
  obtain ⟨e2, xs, hp, t⟩ := own_at (S.next n1) ho
  exact ⟨p, xs, v, rfl, rfl, hp, sz_lt' (by rw [t.length]; exact hl), k _ _ ((S.next n1).chOwn ho hg (t.append (.cons q .nil)))⟩
/-- x.extend([..]) -/
theorem st_extend {p : Addr} (ho : E[i]? = some (.own p ds)) (hg : ∀ a ∈ E, ∀ d, a ≠ .gen d) (h : Ev W H0 te E (.l es)) (hl : ds.length + es.length ≤ 100000) (k : ∀ σ H, Sat W H0 (E.set i (.own p (ds ++ es))) σ H → D.nx σ H) :
    Go W H0 (tDrop (tBM K "list" rExtend (tVar i) (tCons te tNil))) D E := fun σ H S => by
  obtain ⟨e1, xs0, hp0, t0⟩ := own_at S ho
  refine ⟨_, e1, .inl ⟨rfl, xs0, SqL.of hp0⟩, h σ H S _ fun v H1 n1 q => ?_⟩
  obtain ⟨b, zs, rfl, hn, hb, tb⟩ := q
  obtain ⟨e2, xs, hp, t⟩ := own_at (S.next n1) ho
  exact ⟨p, b, xs, zs, rfl, rfl, hp, hb, sz_le (by rw [t.length, tb.length]; exact hl), k _ _ ((S.next n1).chOwn ho hg (t.append tb))⟩
/-- x[n] = e -/
theorem st_setL {p : Addr} {n : Int} {m : Nat} (ho : E[i]? = some (.own p ds)) (hg : ∀ a ∈ E, ∀ d, a ≠ .gen d) (h : Ev W H0 te E (.f d)) (hi : Ev W H0 tb E (.f (.int n))) (hn : ixN ds.length n = some m) (k : ∀ σ H, Sat W H0 (E.set i (.own p (ds.set m d))) σ H → D.nx σ H) :
    Go W H0 (tAsg te (gSub (tVar i) tb rSetL)) D E := fun σ H S => h σ H S _ fun v H1 n1 q => by
  obtain ⟨e1, _, _, _⟩ := own_at (S.next n1) ho
  refine ⟨_, e1, hi.late (S.next n1) fun w H2 n2 q2 => ?_⟩
  cases q2
  obtain ⟨e2, xs, hp, t⟩ := own_at ((S.next n1).next n2) ho
  refine ⟨p, xs, n, m, rfl, rfl, hp, by rw [t.length]; exact hn, k _ _ (((S.next n1).next n2).chOwn ho hg (t.set m (q.to n2.1)))⟩
/-! loops -/
def AR.av : AR → AV
  | .f d => .dat d
  | .b d => .gen d
  | .l ds => .gen (.list ds)
  | .g ds => .gen (.list ds)
  | .m ds => .gen (.list ds)
  | .r v => .raw v
theorem late_av {a : AR} {H : Hp} {v : V} (q : Late W H v a) : Holds W H0 H (some v) a.av := by
  cases a with
  | f d => exact ⟨v, rfl, q⟩
  | b d => exact ⟨v, rfl, q⟩
  | l ds => exact ⟨v, rfl, Late.dq (a := .l ds) q rfl⟩
  | g ds => exact ⟨v, rfl, Late.dq (a := .g ds) q rfl⟩
  | m ds => exact ⟨v, rfl, Late.dq (a := .m ds) q rfl⟩
  | r w => exact congrArg some q
theorem av_own {a : AR} : ∀ (p : Addr) (ds : List PyData), a.av ≠ .own p ds := fun p ds z => by cases a <;> cases z
/-- what is walked by a for, generally: P is what holds ahead of turn i -/
theorem for_src {wi : TI} {g : TG} {tb : TS} {σ : L2.St} {H : Hp} {J : It} {C : Hp → Prop} {src : List AR} (s : Src W C J src) (P : Nat → L2.St → Hp → Prop) (hC : ∀ i σ H, P i σ H → C H) (h0 : P 0 σ H)
    (hs : ∀ i a x σ H, src[i]? = some a → P i σ H → Late W H x a → g x σ H fun σ2 H2 => tb { D with nx := P (i + 1), ct := P (i + 1), bk := D.nx } σ2 H2) (hd : ∀ σ H, P src.length σ H → D.nx σ H) :
    ∃ W : Nat → Nat → L2.St → Hp → Prop, (∃ m, W 0 m σ H) ∧ ∀ i m σ H, W i m σ H →
      (J.stop i H ∧ D.nx σ H) ∨ (J.go i H ∧ ∃ N : L2.St → Hp → Prop, (∀ σ' H', N σ' H' → ∃ m', m' < m ∧ W (i + 1) m' σ' H') ∧ ∀ x H', J.yld i H x H' → g x σ H' fun σ2 H2 => tb { D with nx := N, ct := N, bk := D.nx } σ2 H2) := by
  refine ⟨fun i m σ H => m = src.length - i ∧ i ≤ src.length ∧ P i σ H, ⟨src.length, by simp, Nat.zero_le _, h0⟩, ?_⟩
  rintro i m σ H ⟨rfl, hi, p⟩
  by_cases hlt : i < src.length
  · refine .inr ⟨s.go i H (hC i σ H p) hlt, P (i + 1), fun σ' H' p' => ⟨src.length - (i + 1), by omega, rfl, hlt, p'⟩, fun x H' y => ?_⟩
    obtain ⟨e, q⟩ := s.yld i H x H' (hC i σ H p) y
    subst e
    exact hs i src[i] x σ _ (List.getElem?_eq_getElem hlt) p (q _ (List.getElem?_eq_getElem hlt))
  · have e : i = src.length := by omega
    subst e
    exact .inl ⟨s.stop _ H (hC _ σ H p) (Nat.le_refl _), hd σ H p⟩
/-- a for whose body changes no list of one's own; P: what is known of the slots ahead of turn i; the turns are told from H1 on -/
theorem st_for {wi : TI} {tb : TS} {src : List AR} {E1 : List AV} (P : Nat → List AV → Prop) (hi : EvI W H0 wi E src) (hP : ∀ i E', P i E' → plainE E' = true) (h0 : P 0 E1) (hw : Wk E1 E)
    (hs : ∀ H1, Nx W H0 H1 → ∀ i a E', src[i]? = some a → P i E' → Go W H1 tb { D with nx := fun σ H => ∃ E'', P (i + 1) E'' ∧ Sat W H1 E'' σ H, ct := fun σ H => ∃ E'', P (i + 1) E'' ∧ Sat W H1 E'' σ H, bk := D.nx } (E'.set j a.av))
    (hd : ∀ E', P src.length E' → ∀ σ H, Sat W H0 E' σ H → D.nx σ H) : Go W H0 (tFor wi (gName j) tb) D E := fun σ H S => hi σ H S _ fun J H1 n1 s => by
  have N1 : Nx W H0 H1 := S.nx.trans n1
  refine for_src (wi := wi) (P := fun i σ H => ∃ E', P i E' ∧ Sat W H1 E' σ H) s (fun i σ H p => by obtain ⟨_, _, p⟩ := p; exact p.nx) ⟨E1, h0, ((S.next n1).wk hw).move (hP 0 E1 h0) (.refl N1.2) N1.2⟩ (fun i a x σ2 H2 ha p q => ?_) (fun σ2 H2 p => ?_)
  · obtain ⟨E', p, S2⟩ := p
    exact hs H1 N1 i a E' ha p _ H2 (S2.set (late_av q) av_own)
  · obtain ⟨E', p, S2⟩ := p
    exact hd E' p σ2 H2 (S2.move (hP _ E' p) (N1.trans S2.nx) S.j0)
/-- a for over a list of one's own (slot i), that stays, others may change -/
theorem st_forOwn {tb : TS} {p : Addr} (P : Nat → List AV → Prop) (ho : ∀ n E', P n E' → E'[i]? = some (.own p ds)) (h0 : P 0 E)
    (hs : ∀ n d E', ds[n]? = some d → P n E' → Go W H0 tb { D with nx := fun σ H => ∃ E'', P (n + 1) E'' ∧ Sat W H0 E'' σ H, ct := fun σ H => ∃ E'', P (n + 1) E'' ∧ Sat W H0 E'' σ H, bk := D.nx } (E'.set j (.dat d)))
    (hd : ∀ E', P ds.length E' → ∀ σ H, Sat W H0 E' σ H → D.nx σ H) : Go W H0 (tFor (iList K (tVar i)) (gName j) tb) D E := fun σ H S => by
  obtain ⟨e1, xs0, hp0, t0⟩ := own_at S (ho 0 E h0)
  refine ⟨_, e1, p, rfl, ⟨xs0, SqL.of hp0⟩, ?_⟩
  refine for_src (W := W) (src := ds.map .f) (wi := iList K (tVar i)) (C := fun H => ∃ xs, H p = some (.lst xs) ∧ FzAll H xs ds) (P := fun n σ H => ∃ E', P n E' ∧ Sat W H0 E' σ H) (src_lst fun H c => c) (fun n σ H q => ?_) ⟨E, h0, S⟩ (fun n a x σ2 H2 ha q r => ?_) (fun σ2 H2 q => ?_)
  · obtain ⟨E', q, S2⟩ := q
    exact (own_at S2 (ho n E' q)).2
  · obtain ⟨E', q, S2⟩ := q
    rw [List.getElem?_map] at ha
    cases e : ds[n]? with
    | none =>
      rw [e] at ha
      cases ha
    | some d =>
      rw [e] at ha
      cases ha
      exact hs n d E' e q _ H2 (S2.dat r)
  · obtain ⟨E', q, S2⟩ := q
    rw [List.length_map] at q
    exact hd E' q σ2 H2 S2
/-- a for over range(n), lists of one's own may change -/
theorem st_forR {tb : TS} {n : Int} (P : Nat → List AV → Prop) (hn : Ev W H0 te E (.f (.int n))) (hb : 0 ≤ n ∧ n ≤ 100000) (h0 : P 0 E)
    (hs : ∀ (m : Nat) E', (m : Int) < n → P m E' → Go W H0 tb { D with nx := fun σ H => ∃ E'', P (m + 1) E'' ∧ Sat W H0 E'' σ H, ct := fun σ H => ∃ E'', P (m + 1) E'' ∧ Sat W H0 E'' σ H, bk := D.nx } (E'.set j (.dat (.int (m : Int)))))
    (hd : ∀ E', P n.toNat E' → ∀ σ H, Sat W H0 E' σ H → D.nx σ H) : Go W H0 (tFor (iRng1 (tCons te tNil)) (gName j) tb) D E := fun σ H S => hn.late S fun v H1 n1 q => by
  cases q
  refine ⟨n, rfl, by omega, by omega, ?_⟩
  refine for_src (W := W) (wi := iRng1 (tCons te tNil)) (C := fun _ => True) (P := fun m σ H => ∃ E', P m E' ∧ Sat W H0 E' σ H) (src_range 0 n.toNat) (fun _ _ _ _ => trivial) ⟨E, h0, S.next n1⟩ (fun m a x σ2 H2 ha q r => ?_) (fun σ2 H2 q => ?_)
  · obtain ⟨E', q, S2⟩ := q
    rw [List.getElem?_map] at ha
    cases e : (List.range n.toNat)[m]? with
    | none =>
      rw [e] at ha
      cases ha
    | some k =>
      have hk : k = m := by
        obtain ⟨h1, h2⟩ := List.getElem?_eq_some_iff.mp e
        rw [List.getElem_range] at h2
        exact h2.symm
      have hm : (m : Int) < n := by
        have := (List.getElem?_eq_some_iff.mp e).1
        rw [List.length_range] at this
        omega
      rw [e] at ha
      cases ha
      subst hk
      have r2 : Fz H2 x (.int (k : Int)) := by
        have r3 : Fz H2 x (.int (0 + (k : Int))) := r
        rw [Int.zero_add] at r3
        exact r3
      exact hs k E' hm q _ H2 (S2.dat r2)
  · obtain ⟨E', q, S2⟩ := q
    rw [List.length_map, List.length_range] at q
    exact hd E' q σ2 H2 S2
/-- while: P by a measure -/
theorem st_while {tb : TS} (P : Nat → List AV → Prop) (m0 : Nat) (h0 : P m0 E)
    (hs : ∀ m E', P m E' → ∃ b, EvT W H0 t E' b ∧ (b = true → Go W H0 tb { D with nx := fun σ H => ∃ m' E'', m' < m ∧ P m' E'' ∧ Sat W H0 E'' σ H, ct := fun σ H => ∃ m' E'', m' < m ∧ P m' E'' ∧ Sat W H0 E'' σ H, bk := D.nx } E') ∧ (b = false → ∀ σ H, Sat W H0 E' σ H → D.nx σ H)) :
    Go W H0 (tWhile t tb) D E := fun σ H S => by
  refine ⟨fun m σ H => ∃ E', P m E' ∧ Sat W H0 E' σ H, ⟨m0, E, h0, S⟩, ?_⟩
  rintro m σ2 H2 ⟨E', p, S2⟩
  obtain ⟨b, ht, h1, h2⟩ := hs m E' p
  refine ht σ2 H2 S2 _ fun H3 n3 => ?_
  cases b with
  | true => exact ⟨fun σ H => ∃ m' E'', m' < m ∧ P m' E'' ∧ Sat W H0 E'' σ H, fun σ' H' ⟨m', E'', a1, a2, a3⟩ => ⟨m', a1, E'', a2, a3⟩, h1 rfl σ2 H3 (S2.next n3)⟩
  | false => exact h2 rfl σ2 H3 (S2.next n3)
/-! the same, something behind -/
theorem q_guard {b : Bool} (h : EvT W H0 t E b) (h1 : b = true → Go W H0 tu { D with nx := tz D } E) (h2 : b = false → Go W H0 tz D E) : Go W H0 (tSeq (tIfS t tu tNext) tz) D E := go_seq (st_if h h1 h2)
theorem q_guardT {b : Bool} (h : EvT W H0 t E b) (hb : b = true) (h1 : Go W H0 tu { D with nx := tz D } E) : Go W H0 (tSeq (tIfS t tu tw) tz) D E := go_seq (st_ifT h hb h1)
theorem q_guardF {b : Bool} (h : EvT W H0 t E b) (hb : b = false) (h1 : Go W H0 tz D E) : Go W H0 (tSeq (tIfS t tu tNext) tz) D E := go_seq (st_ifF h hb h1)
theorem q_asgF (h : Ev W H0 te E (.f d)) (k : Go W H0 tz D (E.set i (.dat d))) : Go W H0 (tSeq (tAsg te (gName i)) tz) D E := go_seq (st_asgF h k)
theorem q_asgN {P : PyData → Prop} (h : EvN W H0 te E P) (k : ∀ d, P d → Go W H0 tz D (E.set i (.dat d))) : Go W H0 (tSeq (tAsg te (gName i)) tz) D E := go_seq (st_asgN h k)
theorem q_asgB (h : Ev W H0 te E a) (e : a.d = some d) (k : Go W H0 tz D (E.set i (.gen d))) : Go W H0 (tSeq (tAsg te (gName i)) tz) D E := go_seq (st_asgB h e k)
theorem q_asgL (h : Ev W H0 te E (.l ds)) (k : ∀ p, Go W H0 tz D (E.set i (.own p ds))) : Go W H0 (tSeq (tAsg te (gName i)) tz) D E := go_seq (st_asgL h k)
theorem q_asgNL {P : List PyData → Prop} (h : EvNL W H0 te E P) (k : ∀ ds, P ds → ∀ p, Go W H0 tz D (E.set i (.own p ds))) : Go W H0 (tSeq (tAsg te (gName i)) tz) D E := go_seq (st_asgNL h k)
theorem q_asgR {v : V} (h : Ev W H0 te E (.r v)) (k : Go W H0 tz D (E.set i (.raw v))) : Go W H0 (tSeq (tAsg te (gName i)) tz) D E := go_seq (st_asgR h k)
theorem q_drop (h : Ev W H0 te E a) (k : Go W H0 tz D E) : Go W H0 (tSeq (tDrop te) tz) D E := go_seq (st_drop h k)
theorem q_two (h : Ev W H0 te E (.f (.tuple [d, e]))) (k : Go W H0 tz D ((E.set i (.dat d)).set j (.dat e))) : Go W H0 (tSeq (tAsg te (gTup K 2 (gCons (gName i) (gCons (gName j) gNil)))) tz) D E := go_seq (st_two h k)
theorem q_par {x y : PyData} (h : EvA W H0 (tCons ta (tCons tb tNil)) E [.f x, .f y]) (k : Go W H0 tz D ((E.set i (.dat x)).set j (.dat y))) : Go W H0 (tSeq (tPar i j (tCons ta (tCons tb tNil))) tz) D E := go_seq (st_par h k)
theorem q_par3 {x y z : PyData} {tc : TE} (h : EvA W H0 (tCons ta (tCons tb (tCons tc tNil))) E [.f x, .f y, .f z]) (k : Go W H0 tz D (((E.set i (.dat x)).set j (.dat y)).set l (.dat z))) : Go W H0 (tSeq (tPar3 i j l (tCons ta (tCons tb (tCons tc tNil)))) tz) D E := go_seq (st_par3 h k)
theorem q_append {p : Addr} (ho : E[i]? = some (.own p ds)) (hg : ∀ a ∈ E, ∀ d, a ≠ .gen d) (h : Ev W H0 te E (.f d)) (hl : ds.length < 100000) (k : Go W H0 tz D (E.set i (.own p (ds ++ [d])))) :
    Go W H0 (tSeq (tDrop (tBM K "list" rAppend (tVar i) (tCons te tNil))) tz) D E := go_seq (st_append ho hg h hl k)
theorem q_setL {p : Addr} {n : Int} {m : Nat} (ho : E[i]? = some (.own p ds)) (hg : ∀ a ∈ E, ∀ d, a ≠ .gen d) (h : Ev W H0 te E (.f d)) (hi : Ev W H0 tb E (.f (.int n))) (hn : ixN ds.length n = some m) (k : Go W H0 tz D (E.set i (.own p (ds.set m d)))) :
    Go W H0 (tSeq (tAsg te (gSub (tVar i) tb rSetL)) tz) D E := go_seq (st_setL ho hg h hi hn k)
theorem q_for {wi : TI} {tb : TS} {src : List AR} {E1 : List AV} (P : Nat → List AV → Prop) (hi : EvI W H0 wi E src) (hP : ∀ i E', P i E' → plainE E' = true) (h0 : P 0 E1) (hw : Wk E1 E)
    (hs : ∀ H1, Nx W H0 H1 → ∀ i a E', src[i]? = some a → P i E' → Go W H1 tb { D with nx := fun σ H => ∃ E'', P (i + 1) E'' ∧ Sat W H1 E'' σ H, ct := fun σ H => ∃ E'', P (i + 1) E'' ∧ Sat W H1 E'' σ H, bk := tz D } (E'.set j a.av))
    (hd : ∀ E', P src.length E' → Go W H0 tz D E') : Go W H0 (tSeq (tFor wi (gName j) tb) tz) D E := go_seq (st_for P hi hP h0 hw hs hd)
theorem q_forR {tb : TS} {n : Int} (P : Nat → List AV → Prop) (hn : Ev W H0 te E (.f (.int n))) (hb : 0 ≤ n ∧ n ≤ 100000) (h0 : P 0 E)
    (hs : ∀ (m : Nat) E', (m : Int) < n → P m E' → Go W H0 tb { D with nx := fun σ H => ∃ E'', P (m + 1) E'' ∧ Sat W H0 E'' σ H, ct := fun σ H => ∃ E'', P (m + 1) E'' ∧ Sat W H0 E'' σ H, bk := tz D } (E'.set j (.dat (.int (m : Int)))))
    (hd : ∀ E', P n.toNat E' → Go W H0 tz D E') : Go W H0 (tSeq (tFor (iRng1 (tCons te tNil)) (gName j) tb) tz) D E := go_seq (st_forR P hn hb h0 hs hd)
theorem q_forOwn {tb : TS} {p : Addr} (P : Nat → List AV → Prop) (ho : ∀ n E', P n E' → E'[i]? = some (.own p ds)) (h0 : P 0 E)
    (hs : ∀ n d E', ds[n]? = some d → P n E' → Go W H0 tb { D with nx := fun σ H => ∃ E'', P (n + 1) E'' ∧ Sat W H0 E'' σ H, ct := fun σ H => ∃ E'', P (n + 1) E'' ∧ Sat W H0 E'' σ H, bk := tz D } (E'.set j (.dat d)))
    (hd : ∀ E', P ds.length E' → Go W H0 tz D E') : Go W H0 (tSeq (tFor (iList K (tVar i)) (gName j) tb) tz) D E := go_seq (st_forOwn P ho h0 hs hd)
theorem q_while {tb : TS} (P : Nat → List AV → Prop) (m0 : Nat) (h0 : P m0 E)
    (hs : ∀ m E', P m E' → ∃ b, EvT W H0 t E' b ∧ (b = true → Go W H0 tb { D with nx := fun σ H => ∃ m' E'', m' < m ∧ P m' E'' ∧ Sat W H0 E'' σ H, ct := fun σ H => ∃ m' E'', m' < m ∧ P m' E'' ∧ Sat W H0 E'' σ H, bk := tz D } E') ∧ (b = false → Go W H0 tz D E')) :
    Go W H0 (tSeq (tWhile t tb) tz) D E := go_seq (st_while P m0 h0 hs)
end

/-! ### promises and calls -/
def okRes : AR → Prop
  | .f _ => True
  | .l _ => True
  | _ => False
/-- rel: what comes of which arguments -/
def Pr (rel : List AR → AR → Prop) : Sp := fun vs H Q _ => ∃ as c, rel as c ∧ okRes c ∧ LateAll W0 H vs as ∧ ∀ v H', Same H H' → Res W0 H H' v c → Q v H'
/-- the same, or the exception of the class at C -/
def PrX (rel : List AR → AR → Prop) (bad : List AR → Addr → Prop) : Sp := fun vs H Q E => ∃ as, LateAll W0 H vs as ∧
  ((∃ c, rel as c ∧ okRes c ∧ ∀ v H', Same H H' → Res W0 H H' v c → Q v H') ∨ ∃ C, bad as C ∧ ∀ H', Same H H' → E (.ref C) none H')
def AR.coe (a b : AR) : Prop := a = b ∨ ∃ d, a.d = some d ∧ b = .b d
inductive Coes : List AR → List AR → Prop
  | nil : Coes [] []
  | cons {a b : AR} {as bs : List AR} (h : AR.coe a b) (t : Coes as bs) : Coes (a :: as) (b :: bs)
theorem coe_rfl {a : AR} : AR.coe a a := .inl rfl
theorem coe_b {a : AR} {d : PyData} (e : a.d = some d) : AR.coe a (.b d) := .inr ⟨d, e, rfl⟩
section
variable {W : Wd} {H0 : Hp} {E : List AV} {ta : TA} {c : AR} {as bs : List AR}
theorem late_w0 {a b : AR} {H : Hp} {v : V} (h : AR.coe a b) (q : Late W H v a) : Late W0 H v b := by
  have nr : ∀ p, ¬ W0.R p := fun p z => z
  rcases h with rfl | ⟨d, e, rfl⟩
  · cases a with
    | f d => exact q
    | l ds =>
      obtain ⟨p, xs, e, hp, _, t⟩ := q
      exact ⟨p, xs, e, hp, nr p, t⟩
    | g ds =>
      obtain ⟨p, xs, e, hp, _, t⟩ := q
      exact ⟨p, xs, e, hp, nr p, t⟩
    | m ds =>
      obtain ⟨p, xs, e, hp, _, t⟩ := q
      exact ⟨p, xs, e, hp, nr p, DqAll.mono (fun _ z => z.elim) _ _ t⟩
    | b d => exact Dq.mono (fun _ z => z.elim) _ _ q
    | r v => exact q
  · exact Dq.mono (fun _ z => z.elim) _ _ (q.dq e)
theorem lates_w0 {H : Hp} : ∀ {vs : List V} {as bs : List AR}, Coes as bs → LateAll W H vs as → LateAll W0 H vs bs
  | _, _, _, .nil, .nil => .nil
  | _, _, _, .cons h t, .cons q r => .cons (late_w0 h q) (lates_w0 t r)
theorem res_w {H H' : Hp} {v : V} (j : W.J H) (ok : okRes c) (r : Res W0 H H' v c) : Res W H H' v c := by
  cases c with
  | f d => exact r
  | l ds =>
    obtain ⟨p, xs, e, hn, hp, t⟩ := r
    exact ⟨p, xs, e, W.frn j hn, hp, t⟩
  | _ => exact ok.elim
theorem ev_call {rel : List AR → AR → Prop} {Ex : XK} (h : EvA W H0 ta E as) (hc : Coes as bs) (r : rel bs c) (ok : okRes c) : Ev W H0 (tCall (Pr rel) [] Ex ta) E c := fun σ H S Q k =>
  h σ H S _ fun vs H1 n1 q1 => ⟨bs, c, r, ok, by rw [List.append_nil]; exact lates_w0 hc q1, fun v H' e q => by
    have n2 : Nx W H1 H' := .of_same n1.2 e
    exact k v H' (n1.trans n2) ((res_w n1.2 ok q).back n1)⟩
theorem ev_callX {rel : List AR → AR → Prop} {bad : List AR → Addr → Prop} {Ex : XK} (h : EvA W H0 ta E as) (hc : Coes as bs) (r : rel bs c) (ok : okRes c) : Ev W H0 (tCall (PrX rel bad) [] Ex ta) E c := fun σ H S Q k =>
  h σ H S _ fun vs H1 n1 q1 => ⟨bs, by rw [List.append_nil]; exact lates_w0 hc q1, .inl ⟨c, r, ok, fun v H' e q => by
    have n2 : Nx W H1 H' := .of_same n1.2 e
    exact k v H' (n1.trans n2) ((res_w n1.2 ok q).back n1)⟩⟩
/-- an expression that raises -/
def EvX (W : Wd) (H0 : Hp) (te : TE) (E : List AV) (Z : Hp → Prop) : Prop := ∀ (σ : L2.St) (H : Hp), Sat W H0 E σ H → (∀ H', Nx W H H' → Z H') → ∀ Q : VK, te σ H Q
theorem evx_call {rel : List AR → AR → Prop} {bad : List AR → Addr → Prop} {Ex : XK} {C : Addr} (h : EvA W H0 ta E as) (hc : Coes as bs) (r : bad bs C) : EvX W H0 (tCall (PrX rel bad) [] Ex ta) E (fun H' => Ex (.ref C) none H') := fun σ H S k Q =>
  h σ H S _ fun vs H1 n1 q1 => ⟨bs, by rw [List.append_nil]; exact lates_w0 hc q1, .inr ⟨C, r, fun H' e => k H' (n1.trans (.of_same n1.2 e))⟩⟩
def AR.arg : AR → AV
  | .f d => .dat d
  | .b d => .arg d
  | .l ds => .arg (.list ds)
  | .g ds => .arg (.list ds)
  | .m ds => .arg (.list ds)
  | .r v => .raw v
/-- a def's slots at its start -/
def startE (N : List Str) (as : List AR) : List AV := as.map AR.arg ++ List.replicate (N.length - as.length) .no
theorem late_arg {a : AR} {H : Hp} {v : V} (q : Late W H v a) : Holds W H H (some v) a.arg := by
  cases a with
  | f d => exact ⟨v, rfl, q⟩
  | b d => exact ⟨v, rfl, q⟩
  | l ds => exact ⟨v, rfl, Late.dq (a := .l ds) q rfl⟩
  | g ds => exact ⟨v, rfl, Late.dq (a := .g ds) q rfl⟩
  | m ds => exact ⟨v, rfl, Late.dq (a := .m ds) q rfl⟩
  | r w => exact congrArg some q
theorem lates_at {H : Hp} : ∀ {vs : List V} {as : List AR} {i : Nat} {a : AR}, LateAll W H vs as → as[i]? = some a → ∃ v, vs[i]? = some v ∧ Late W H v a
  | _, _, _, _, .nil, e => by simp at e
  | _, _, 0, _, .cons h _, e => by simp at e; subst e; exact ⟨_, rfl, h⟩
  | _, _, i + 1, a, .cons _ t, e => by
    obtain ⟨v, h1, h2⟩ := lates_at (i := i) (a := a) t (by simpa using e)
    exact ⟨v, by simpa using h1, h2⟩
theorem sat_start {N : List Str} {vs : List V} {H : Hp} (j : W.J H) (la : LateAll W H vs as) : Sat W H (startE N as) (L2.start N vs) H := by
  have hl := la.length
  refine ⟨.refl j, j, ?_, fun i a e => ?_, fun i k p ds es e => ?_⟩
  · unfold startE L2.start
    simp only [List.length_append, List.length_map, List.length_replicate, hl]
  · unfold startE at e
    unfold L2.start
    by_cases h : i < as.length
    · rw [List.getElem?_append_left (by rw [List.length_map]; exact h), List.getElem?_map, List.getElem?_eq_getElem h] at e
      cases e
      obtain ⟨v, h1, h2⟩ := lates_at la (List.getElem?_eq_getElem h)
      rw [List.getElem?_append_left (by rw [List.length_map, hl]; exact h), List.getElem?_map, h1]
      exact late_arg h2
    · rw [List.getElem?_append_right (by rw [List.length_map]; omega), List.getElem?_replicate] at e
      split at e
      · cases e
        trivial
      · cases e
  · unfold startE at e
    by_cases h : i < as.length
    · rw [List.getElem?_append_left (by rw [List.length_map]; exact h), List.getElem?_map, List.getElem?_eq_getElem h] at e
      generalize as[i] = a at e
      cases a <;> cases e
    · rw [List.getElem?_append_right (by rw [List.length_map]; omega), List.getElem?_replicate] at e
      split at e <;> cases e
end
end K00

/-! Part Text. -/
set_option Elab.async false
set_option linter.all false
set_option autoImplicit false
set_option maxRecDepth 100000
set_option maxHeartbeats 4000000
/-! The text by places, what the top leaves, short words for the rules. -/
namespace K00
open PySem PySem.Spec PyProof.Rows L2
/-- the i-th statement of the joined text -/
def stm (i : Nat) : Stmt := PySem.Challenge.pw_helpedcalls_k00_whole_objects.main.body.getD i (.Pass ⟨0, 0, 0, 0⟩)
abbrev FnP (K : PySem.W.Frag) (x : Str) (i : Nat) (f : Addr) (fd : FuncData) : Prop := FunD K x x (defArgs (stm i)) (defBody (stm i)) (defScope (stm i)) [] [] f fd
/-- the built-ins that the text uses are no names of the module -/
structure Bt (mg : Str → Option Value) : Prop where
  isinstance : mg "isinstance" = none
  int : mg "int" = none
  bool : mg "bool" = none
  tuple : mg "tuple" = none
  list : mg "list" = none
  str : mg "str" = none
  len : mg "len" = none
  all : mg "all" = none
  range : mg "range" = none
  sorted : mg "sorted" = none
/-- a def of the module, as it is called -/
structure Kn (K : PySem.W.Frag) (mg : Str → Option Value) (x : Str) (ps : List Str) (f : Addr) (fd : FuncData) : Prop where
  at_ : mg x = some (.ref f)
  kp : PySem.W.keepIn K (.ref f) = true
  bd : Binds K fd ps []
section
variable {X : Cx} {e : Expr} {es : List Expr} {ta : TA} {te : TE} {p pos : Pos}
theorem k_isinstance (m : X.mg "isinstance" = none) (hg : Gl X "isinstance") (ha : PA X (e :: es) ta) (he : starEach (e :: es) X.env = (false, eval e X.env) :: starEach es X.env := by rfl) (hpl : (backTo pos (starEach es X.env)).any (·.1) = false := by rfl) : PE X (.Call (.Name "isinstance" p) (e :: es) [] pos) (tCB (rIsi X.K) ta) :=
  pe_callB call_isi hg m (by decide +kernel) ha (by decide) (by decide) he hpl
theorem k_isinstanceT (m : X.mg "isinstance" = none) (hg : Gl X "isinstance") (ha : PA X (e :: es) ta) (he : starEach (e :: es) X.env = (false, eval e X.env) :: starEach es X.env := by rfl) (hpl : (backTo pos (starEach es X.env)).any (·.1) = false := by rfl) : PE X (.Call (.Name "isinstance" p) (e :: es) [] pos) (tCB (rIsiT X.K) ta) :=
  pe_callB call_isiT hg m (by decide +kernel) ha (by decide) (by decide) he hpl
theorem k_len (m : X.mg "len" = none) (hg : Gl X "len") (ha : PA X (e :: es) ta) (he : starEach (e :: es) X.env = (false, eval e X.env) :: starEach es X.env := by rfl) (hpl : (backTo pos (starEach es X.env)).any (·.1) = false := by rfl) : PE X (.Call (.Name "len" p) (e :: es) [] pos) (tCB (rLenZ X.K) ta) :=
  pe_callB call_lenZ hg m (by decide +kernel) ha (by decide) (by decide) he hpl
theorem k_all (hc : X.calm = true) (m : X.mg "all" = none) (hg : Gl X "all") (ha : PA X (e :: es) ta) (he : starEach (e :: es) X.env = (false, eval e X.env) :: starEach es X.env := by rfl) (hpl : (backTo pos (starEach es X.env)).any (·.1) = false := by rfl) : PE X (.Call (.Name "all" p) (e :: es) [] pos) (tCB (rAll X.K) ta) :=
  pe_callB (cr_all hc) hg m (by decide +kernel) ha (by decide) (by decide) he hpl
theorem k_tuple (m : X.mg "tuple" = none) (hg : Gl X "tuple") (ha : PA X (e :: es) ta) (he : starEach (e :: es) X.env = (false, eval e X.env) :: starEach es X.env := by rfl) (hpl : (backTo pos (starEach es X.env)).any (·.1) = false := by rfl) : PE X (.Call (.Name "tuple" p) (e :: es) [] pos) (tCB (rTupZ X.K) ta) :=
  pe_callTy call_tupZ hg m (by decide +kernel) ha (by decide) (by decide) he hpl
theorem k_list (m : X.mg "list" = none) (hg : Gl X "list") (ha : PA X (e :: es) ta) (he : starEach (e :: es) X.env = (false, eval e X.env) :: starEach es X.env := by rfl) (hpl : (backTo pos (starEach es X.env)).any (·.1) = false := by rfl) : PE X (.Call (.Name "list" p) (e :: es) [] pos) (tCB (rLstZ X.K) ta) :=
  pe_callTy call_lstZ hg m (by decide +kernel) ha (by decide) (by decide) he hpl
theorem k_int (m : X.mg "int" = none) (hg : Gl X "int") (ha : PA X (e :: es) ta) (he : starEach (e :: es) X.env = (false, eval e X.env) :: starEach es X.env := by rfl) (hpl : (backTo pos (starEach es X.env)).any (·.1) = false := by rfl) : PE X (.Call (.Name "int" p) (e :: es) [] pos) (tCB rIntZ ta) :=
  pe_callTy call_intZ hg m (by decide +kernel) ha (by decide) (by decide) he hpl
/-- a built-in type as a value -/
theorem k_ty {x : Str} {n : String} (m : X.mg x = none) (hg : Gl X x) (hv : bootBuiltins x = some (.type n)) (hn : x ≠ "__name__" := by decide) (hd : (x == ("__debug__" : Str)) = false := by decide) : PE X (.Name x pos) (tC (.ty n)) := pe_bltn hg m hv rfl hn hd
theorem boot_int' : bootBuiltins "int" = some (.type "int") := by decide +kernel
theorem boot_bool' : bootBuiltins "bool" = some (.type "bool") := by decide +kernel
theorem boot_str' : bootBuiltins "str" = some (.type "str") := by decide +kernel
theorem boot_tuple' : bootBuiltins "tuple" = some (.type "tuple") := by decide +kernel
theorem boot_list' : bootBuiltins "list" = some (.type "list") := by decide +kernel
/-- a call of a def of the module that raises nothing -/
theorem k_call {x : Str} {k n : Nat} {f : Addr} {fd : FuncData} {ps : List Str} {sp : Sp} (G : FnOk X.prog X.w X.K X.mg X.base CX0 k f fd ps sp) (N : Kn X.K X.mg x ps f fd) (hr : Room n X.A) (hk : k ≤ n) (hg : Gl X x) (ha : PA X (e :: es) ta) (hdb : (x == ("__debug__" : Str)) = false := by decide)
    (he : starEach (e :: es) X.env = (false, eval e X.env) :: starEach es X.env := by rfl) (hpl : (backTo pos (starEach es X.env)).any (·.1) = false := by rfl) : PE X (.Call (.Name x p) (e :: es) [] pos) (tCall sp [] E0 ta) :=
  pe_call G (hr.mono hk) hg N.at_ N.kp N.bd .nil pass0 ha hdb he hpl
/-- .. of one that might, but does not here -/
theorem k_callN {x : Str} {k n : Nat} {f : Addr} {fd : FuncData} {ps : List Str} {sp : Sp} (G : FnOk X.prog X.w X.K X.mg X.base (L2.CX X.prog X.w) k f fd ps sp) (N : Kn X.K X.mg x ps f fd) (hr : Room n X.A) (hk : k ≤ n) (hg : Gl X x) (ha : PA X (e :: es) ta) (hdb : (x == ("__debug__" : Str)) = false := by decide)
    (he : starEach (e :: es) X.env = (false, eval e X.env) :: starEach es X.env := by rfl) (hpl : (backTo pos (starEach es X.env)).any (·.1) = false := by rfl) : PE X (.Call (.Name x p) (e :: es) [] pos) (tCall sp [] E0 ta) :=
  pe_call G (hr.mono hk) hg N.at_ N.kp N.bd .nil (fun _ _ _ _ _ _ _ h => by
    obtain ⟨_, _, _, _, _, _, _, _, _, _, _, _, z⟩ := h
    exact z.elim) ha hdb he hpl
/-- .. of one that may raise, in a def that lets it out -/
theorem k_callX {x : Str} {k n : Nat} {f : Addr} {fd : FuncData} {ps : List Str} {sp : Sp} {Ex : XK} (tk : Takes X (fun cls d _ H => Ex cls d H)) (G : FnOk X.prog X.w X.K X.mg X.base (L2.CX X.prog X.w) k f fd ps sp) (N : Kn X.K X.mg x ps f fd) (hr : Room n X.A) (hk : k ≤ n) (hg : Gl X x) (ha : PA X (e :: es) ta) (hdb : (x == ("__debug__" : Str)) = false := by decide)
    (he : starEach (e :: es) X.env = (false, eval e X.env) :: starEach es X.env := by rfl) (hpl : (backTo pos (starEach es X.env)).any (·.1) = false := by rfl) : PE X (.Call (.Name x p) (e :: es) [] pos) (tCall sp [] Ex ta) :=
  pe_call G (hr.mono hk) hg N.at_ N.kp N.bd .nil (passes_call tk fun _ _ _ _ h => h) ha hdb he hpl
/-- f() of an exception class of one's own -/
theorem pmk_bare {C : Addr} {bmB : List Value} {B newId initId : String} {x : Str} (F : ExcBaseFacts B newId initId bmB) (q : PySem.W.excIn X.K C bmB newId = true) (gC : X.mg x = some (.ref C)) (kC : PySem.W.keepIn X.K (.ref C) = true) (r : Raises X (.ref C)) (hg : Gl X x)
    (hdb : (x == ("__debug__" : Str)) = false := by decide) : PMk X (.Call (.Name x p) [] [] pos) (fun _ H Q => Q (.ref C) none H) := by
  intro pins s σ H Q I h
  refine wpAny_Call_Name_kw (ld_glob I hg gC (PySem.W.callWith_K0 I.kIn kC ?_) hdb)
  obtain ⟨bm, N, nm, qn, bs, hdct, sn, sub, ab, col, dd, k0, k1, k2, k3, k5, mN, hC, hN, hni, T⟩ := exc_obj I.kIn q
  exact wpAny_call_exc_subT F T hC hN hni (fun h' e hm => mk_of I hm r h (I.hok.gone hm.new)) (by show 0 ≤ sizeLine; exact Nat.zero_le _)
/-- sorted(xs) of data that can be ordered -/
def rSortZ (K : PySem.W.Frag) : List V → Hp → VK → Prop := fun vs H Q => ∃ (p : Addr) (xs : List V) (ds : List PyData), vs = [.ref p] ∧ H p = some (.lst xs) ∧ FzAll H xs ds ∧ PySem.W.AllAlike ds ∧ PySem.W.Sortable ds ∧ ds.length ≤ 1000 ∧ PyData.depthAll ds ≤ 8 ∧
  ∀ (l : Addr) (ys : List V), H l = none → FzAll H ys (ds.mergeSort (PySem.W.dataLe false id)) → Q (.ref l) (upd H l (.lst ys))
theorem each_fz {H : Hp} : ∀ {us : List Value} {ds : List PyData}, PySem.W.EachIs (fun u d => ∃ v, RelV v u ∧ Fz H v d) us ds → ∃ vs, Vals vs us ∧ FzAll H vs ds
  | _, _, .nil => ⟨[], .nil, .nil⟩
  | _, _, .cons h t => by
    obtain ⟨v, r, f⟩ := h
    obtain ⟨vs, r2, f2⟩ := each_fz t
    exact ⟨v :: vs, .cons r r2, .cons f f2⟩
theorem fz_each {H : Hp} : ∀ {vs : List V} {us : List Value} {ds : List PyData}, Vals vs us → FzAll H vs ds → PySem.W.EachIs (fun u d => ∃ v, RelV v u ∧ Fz H v d) us ds
  | _, _, _, .nil, .nil => .nil
  | _, _, _, .cons r t, .cons f g => .cons ⟨_, r, f⟩ (fz_each t g)
theorem depth_mem {d : PyData} : ∀ {ds : List PyData}, d ∈ ds → d.depth ≤ PyData.depthAll ds
  | [], h => by cases h
  | e :: ds, h => by
    simp only [PyData.depthAll]
    rcases List.mem_cons.mp h with rfl | h
    · omega
    · have := depth_mem h
      omega
theorem cr_sortZ {k : Nat} (hr : Room k X.A) : CallR X (.builtin "sorted") (rSortZ X.K) := by
  intro pins s σ H vs us Q I r h
  obtain ⟨p, xs, ds, rfl, hp, t, hal, hso, hz, hdp, q⟩ := h
  obtain ⟨its, rv, hl, _⟩ := I.list (SqL.of hp)
  rw [Vals.ref1 r]
  have ids : ds.map (id : PyData → PyData) = ds := List.map_id ds
  refine PySem.W.sorted_data (enc := (id : PyData → PyData)) (bs := ds) (R := fun u d => ∃ v, RelV v u ∧ Fz H v d) hl.isList (fz_each rv t) ((fz_each rv t).mono fun u d ⟨v, r1, f1⟩ => ?ca) (by rw [ids]; exact hal) (by rw [ids]; exact hso) (sz_le (Nat.le_trans hz (by decide))) (fun d hd => ?cb) fun out hlen ho => ?cc
  case ca => exact Dp.reads I d v u (Dq.dp (R := fun _ => False) _ _ (Fz.dq _ _ f1)) r1
  case cb =>
    have h1 := depth_mem hd
    have h2 := hr.un
    show X.A.units + 2 + d.depth < cLine
    omega
  case cc =>
    obtain ⟨ys, r2, f2⟩ := each_fz ho
    obtain ⟨ep, he'⟩ := PyProof.Rows.sortedAll_at s.heap its out.toArray
    have hn : H (s.heap.objs.size + 1) = none := I.hok.fresh (Nat.le_succ _)
    refine ⟨.ref _, upd H (s.heap.objs.size + 1) (.lst ys), I.laid (t' := s.toks) (fun _ _ => PyProof.Rows.sortedAll_old) (Nat.le_succ _) ⟨?_, out, ep, r2, ?_⟩, rfl, q _ ys hn f2⟩
    · rw [f2.length, List.length_mergeSort]
      exact sz_le (Nat.le_trans hz (by decide))
    · exact he'
theorem k_sorted {k : Nat} (hr : Room k X.A) (m : X.mg "sorted" = none) (hg : Gl X "sorted") (ha : PA X (e :: es) ta) (he : starEach (e :: es) X.env = (false, eval e X.env) :: starEach es X.env := by rfl) (hpl : (backTo pos (starEach es X.env)).any (·.1) = false := by rfl) : PE X (.Call (.Name "sorted" p) (e :: es) [] pos) (tCB (rSortZ X.K) ta) :=
  pe_callB (cr_sortZ hr) hg m (by decide +kernel) ha (by decide) (by decide) he hpl
end
section
variable {W : Wd} {H0 : Hp} {K : PySem.W.Frag} {E : List AV} {ta : TE} {a : AR} {ds : List PyData}
theorem ev_sort (ha : Ev W H0 ta E a) (e : a = .l ds ∨ a = .g ds) (h1 : PySem.W.AllAlike ds) (h2 : PySem.W.Sortable ds) (h3 : ds.length ≤ 1000) (h4 : PyData.depthAll ds ≤ 8) : Ev W H0 (tCB (rSortZ K) (tCons ta tNil)) E (.l (ds.mergeSort (PySem.W.dataLe false id))) := ev_cb (eva_cons ha eva_nil) fun vs H j q Q k => by
  obtain ⟨v, rfl, q1⟩ := late1 q
  obtain ⟨p, xs, rfl, hp, _, t⟩ := q1.lstF e
  exact ⟨p, xs, ds, rfl, hp, t, h1, h2, h3, h4, fun l ys hl f => k _ _ (.new j hl _) ⟨l, ys, rfl, W.frn j hl, upd_same, f.same (same_new hl _)⟩⟩
/-- any order in which it can stand -/
theorem sort_is {α : Type} {le : α → α → Bool} (T : PySem.W.TotalLe le) {l m : List α} (hp : m.Perm l) (hs : m.Pairwise fun a b => le a b = true) (anti : ∀ a ∈ l, ∀ b ∈ l, le a b = true → le b a = true → a = b) : l.mergeSort le = m := by
  have p : (l.mergeSort le).Perm m := (List.mergeSort_perm l le).trans hp.symm
  exact p.eq_of_pairwise (le := fun a b => le a b = true) (fun a b ha hb h1 h2 => anti a (List.mem_mergeSort.mp ha) b (hp.mem_iff.mp hb) h1 h2) (PySem.W.sort_pairwise T l) hs
end
end K00

/-! Part M. -/
set_option Elab.async false
set_option linter.all false
set_option autoImplicit false
set_option maxRecDepth 100000
set_option maxHeartbeats 4000000
/-! Objects, states, calls, in plain words. -/
namespace K00
open PySem PySem.Spec PyProof.Rows L2
structure Cal where
  w : Str
  ns : List Int
  deriving DecidableEq
def Cal.d (c : Cal) : PyData := .tuple (.str c.w :: c.ns.map .int)
inductive Sta where
  | non
  | num (k : Int)
  | seq (ns : List Int)
  deriving DecidableEq
def Sta.d : Sta → PyData
  | .non => .none
  | .num k => .int k
  | .seq ns => .tuple (ns.map .int)
inductive Th where
  | counter (m : Int)
  | register (m : Int)
  | stack (r m : Int)
  | queue (r m : Int)
  | set (m : Int)
  | agree (m : Int)
  | bank (ns : List Int)
  | table (rows : List (List (Int × Int)))
def pairP (p : Int × Int) : PyData := .tuple [.int p.1, .int p.2]
def rowP (r : List (Int × Int)) : PyData := .tuple (r.map pairP)
def Th.d : Th → PyData
  | .counter m => .tuple [.str "counter", .int m]
  | .register m => .tuple [.str "register", .int m]
  | .stack r m => .tuple [.str "stack", .int r, .int m]
  | .queue r m => .tuple [.str "queue", .int r, .int m]
  | .set m => .tuple [.str "set", .int m]
  | .agree m => .tuple [.str "agree", .int m]
  | .bank ns => .tuple [.str "bank", .tuple (ns.map .int)]
  | .table rows => .tuple [.str "table", .tuple (rows.map rowP)]
/-- as it is drawn -/
def Th.ok : Th → Prop
  | .counter m => 2 ≤ m ∧ m ≤ 4
  | .register m => 2 ≤ m ∧ m ≤ 4
  | .stack r m => (1 ≤ r ∧ r ≤ 2) ∧ 1 ≤ m ∧ m ≤ 2
  | .queue r m => (1 ≤ r ∧ r ≤ 2) ∧ 1 ≤ m ∧ m ≤ 2
  | .set m => 2 ≤ m ∧ m ≤ 3
  | .agree m => 2 ≤ m ∧ m ≤ 3
  | .bank ns => (ns.length = 2 ∨ ns.length = 3) ∧ ∀ k ∈ ns, 0 ≤ k ∧ k ≤ 5
  | .table rows => (1 ≤ rows.length ∧ rows.length ≤ 4) ∧ ∃ w : Nat, (1 ≤ w ∧ w ≤ 3) ∧ ∀ r ∈ rows, r.length = w ∧ ∀ p ∈ r, (0 ≤ p.1 ∧ p.1 < (rows.length : Int)) ∧ 0 ≤ p.2 ∧ p.2 ≤ 3
def iv (lo hi : Int) : List Int := (List.range (hi - lo).toNat).map fun i => lo + (i : Nat)
theorem rangeR_iv (lo hi : Int) : rangeR lo hi = (iv lo hi).map .int := by
  unfold rangeR iv
  rw [List.map_map]
  rfl
theorem mem_iv {lo hi k : Int} : k ∈ iv lo hi ↔ lo ≤ k ∧ k < hi := by
  unfold iv
  rw [List.mem_map]
  constructor
  · rintro ⟨i, hii, rfl⟩
    rw [List.mem_range] at hii
    omega
  · intro h
    refine ⟨(k - lo).toNat, ?_, by omega⟩
    rw [List.mem_range]
    omega
def bankC (n : Int) : List Cal := (iv 0 n).map (fun k => ⟨"look", [k]⟩) ++ (iv 0 n).flatMap fun a => (iv 0 n).flatMap fun b => if a ≠ b then [1, 2, 3].map fun x => ⟨"move", [a, b, x]⟩ else []
def Th.wide : Th → Int
  | .table rows => ((rows.headD []).length : Int)
  | _ => 0
/-- in the program's order -/
def Th.callsU : Th → List Cal
  | .counter m => (iv 1 m).map (fun k => ⟨"add", [k]⟩) ++ [⟨"look", []⟩]
  | .register m => [⟨"look", []⟩] ++ (iv 0 m).map (fun k => ⟨"put", [k]⟩) ++ (iv 0 m).map (fun k => ⟨"trade", [k]⟩)
  | .stack _ m => (iv 0 m).map (fun k => ⟨"push", [k]⟩) ++ [⟨"pop", []⟩]
  | .queue _ m => (iv 0 m).map (fun k => ⟨"enter", [k]⟩) ++ [⟨"leave", []⟩]
  | .set m => (iv 0 m).map (fun k => ⟨"add", [k]⟩) ++ (iv 0 m).map (fun k => ⟨"drop", [k]⟩) ++ (iv 0 m).map (fun k => ⟨"has", [k]⟩)
  | .agree m => (iv 0 m).map fun k => ⟨"decide", [k]⟩
  | .bank ns => bankC ns.length
  | .table rows => (iv 0 (rows.headD []).length).map fun k => ⟨"do", [k]⟩
/-- in order -/
def Th.calls : Th → List Cal
  | .stack _ m => ⟨"pop", []⟩ :: (iv 0 m).map (fun k => ⟨"push", [k]⟩)
  | t => t.callsU
/-- in the law's order -/
def Th.callsL : Th → List Cal
  | .register m => (iv 0 m).map (fun k => ⟨"put", [k]⟩) ++ (iv 0 m).map (fun k => ⟨"trade", [k]⟩) ++ [⟨"look", []⟩]
  | t => t.callsU
/-! sorting -/
structure SortOk (l m : List PyData) : Prop where
  alike : PySem.W.AllAlike l
  sortable : PySem.W.Sortable l
  len : l.length ≤ 1000
  dep : PyData.depthAll l ≤ 8
  eq : l.mergeSort (PySem.W.dataLe false id) = m
def isCons : PyData → Bool
  | .tuple (_ :: _) => true
  | _ => false
def sortChk (l m : List PyData) : Bool := (l.all fun a => l.all fun b => PySem.W.alike a b) && (l.all isCons || l.all isInt) && decide (l.length ≤ 1000) && decide (PyData.depthAll l ≤ 8)
def strict : List PyData → Bool
  | [] => true
  | a :: l => (l.all fun b => PySem.W.dataLe false id a b && !PySem.W.dataLe false id b a) && strict l
theorem strict_pw : ∀ {l : List PyData}, strict l = true → l.Pairwise fun a b => PySem.W.dataLe false id a b = true ∧ PySem.W.dataLe false id b a = false
  | [], _ => .nil
  | a :: l, h => by
    simp only [strict, Bool.and_eq_true, List.all_eq_true, Bool.not_eq_true'] at h
    exact .cons (fun b hb => h.1 b hb) (strict_pw h.2)
theorem strict_anti {l : List PyData} (h : l.Pairwise fun a b => PySem.W.dataLe false id a b = true ∧ PySem.W.dataLe false id b a = false) : ∀ a ∈ l, ∀ b ∈ l, PySem.W.dataLe false id a b = true → PySem.W.dataLe false id b a = true → a = b := by
  intro a ha b hb h1 h2
  obtain ⟨i, hi, rfl⟩ := List.mem_iff_getElem.mp ha
  obtain ⟨j, hj, rfl⟩ := List.mem_iff_getElem.mp hb
  have q := List.pairwise_iff_getElem.mp h
  rcases Nat.lt_trichotomy i j with z | z | z
  · rw [(q i j hi hj z).2] at h2
    cases h2
  · subst z
    rfl
  · rw [(q j i hj hi z).2] at h1
    cases h1
theorem isCons_of {d : PyData} (h : isCons d = true) : ∃ x r, d = .tuple (x :: r) := by
  cases d with
  | tuple ds => cases ds with
    | nil => cases h
    | cons x r => exact ⟨x, r, rfl⟩
  | _ => cases h
theorem sortOk_of {l m : List PyData} (hp : m.Perm l) (h : sortChk l m = true) (hs : strict m = true) : SortOk l m := by
  simp only [sortChk, Bool.and_eq_true, Bool.or_eq_true, List.all_eq_true, decide_eq_true_eq] at h
  obtain ⟨⟨⟨h1, h2⟩, h3⟩, h4⟩ := h
  have pw := strict_pw hs
  refine ⟨fun a ha b hb => h1 a ha b hb, ?_, h3, h4, ?_⟩
  · rcases h2 with z | z
    · exact .inl fun d hd => isCons_of (z d hd)
    · refine .inr fun d hd => ?_
      have := z d hd
      cases d <;> simp_all [isInt]
  · exact sort_is (PySem.W.sortLe_total _ _ _) hp (pw.imp fun q => q.1) fun a ha b hb => strict_anti pw a (hp.mem_iff.mpr ha) b (hp.mem_iff.mpr hb)
def calChk (l m : List Cal) : Bool := m.isPerm l && sortChk (l.map Cal.d) (m.map Cal.d) && strict (m.map Cal.d)
theorem calOk {l m : List Cal} (h : calChk l m = true) : SortOk (l.map Cal.d) (m.map Cal.d) := by
  simp only [calChk, Bool.and_eq_true] at h
  exact sortOk_of ((List.isPerm_iff.mp h.1.1).map _) h.1.2 h.2
theorem two4 {m : Int} (h : 2 ≤ m ∧ m ≤ 4) : m = 2 ∨ m = 3 ∨ m = 4 := by omega
theorem two3 {m : Int} (h : 2 ≤ m ∧ m ≤ 3) : m = 2 ∨ m = 3 := by omega
theorem one2 {m : Int} (h : 1 ≤ m ∧ m ≤ 2) : m = 1 ∨ m = 2 := by omega
theorem Th.calls_ok {t : Th} (h : t.ok) : calChk t.callsU t.calls = true ∧ calChk t.callsL t.calls = true := by
  cases t with
  | counter m => rcases two4 h with rfl | rfl | rfl <;> decide +kernel
  | register m => rcases two4 h with rfl | rfl | rfl <;> decide +kernel
  | stack r m => 
    have e : ∀ r', (Th.stack r m).callsU = (Th.stack r' m).callsU ∧ (Th.stack r m).callsL = (Th.stack r' m).callsL ∧ (Th.stack r m).calls = (Th.stack r' m).calls := fun _ => ⟨rfl, rfl, rfl⟩
    rw [(e 0).1, (e 0).2.1, (e 0).2.2]
    rcases one2 h.2 with rfl | rfl <;> decide +kernel
  | queue r m =>
    have e : ∀ r', (Th.queue r m).callsU = (Th.queue r' m).callsU ∧ (Th.queue r m).callsL = (Th.queue r' m).callsL ∧ (Th.queue r m).calls = (Th.queue r' m).calls := fun _ => ⟨rfl, rfl, rfl⟩
    rw [(e 0).1, (e 0).2.1, (e 0).2.2]
    rcases one2 h.2 with rfl | rfl <;> decide +kernel
  | set m => rcases two3 h with rfl | rfl <;> decide +kernel
  | agree m => rcases two3 h with rfl | rfl <;> decide +kernel
  | bank ns =>
    show calChk (bankC ns.length) (bankC ns.length) = true ∧ calChk (bankC ns.length) (bankC ns.length) = true
    rcases h.1 with e | e <;> rw [e] <;> decide +kernel
  | table rows =>
    obtain ⟨⟨h1, h2⟩, w, ⟨w1, w2⟩, hr⟩ := h
    have e : (rows.headD []).length = w := by
      cases rows with
      | nil => simp at h1
      | cons r t => exact (hr r List.mem_cons_self).1
    show calChk ((iv 0 (rows.headD []).length).map fun k => ⟨"do", [k]⟩) ((iv 0 (rows.headD []).length).map fun k => ⟨"do", [k]⟩) = true ∧ calChk ((iv 0 (rows.headD []).length).map fun k => ⟨"do", [k]⟩) ((iv 0 (rows.headD []).length).map fun k => ⟨"do", [k]⟩) = true
    rw [e]
    rcases (by omega : w = 1 ∨ w = 2 ∨ w = 3) with rfl | rfl | rfl <;> decide +kernel
theorem Th.sortU {t : Th} (h : t.ok) : SortOk (t.callsU.map Cal.d) (t.calls.map Cal.d) := calOk (Th.calls_ok h).1
theorem Th.sortL {t : Th} (h : t.ok) : SortOk (t.callsL.map Cal.d) (t.calls.map Cal.d) := calOk (Th.calls_ok h).2
theorem Th.mem_calls {t : Th} {c : Cal} : c ∈ t.calls ↔ c ∈ t.callsU := by
  cases t with
  | stack r m =>
    simp only [Th.calls, Th.callsU, List.mem_cons, List.mem_append, List.not_mem_nil, or_false]
    exact Or.comm
  | _ => exact Iff.rfl
/-! what a call does -/
def ins (k : Int) : List Int → List Int
  | [] => [k]
  | a :: l => if k ≤ a then k :: a :: l else a :: ins k l
def Th.step : Th → Sta → Cal → Sta × PyData
  | .counter m, .num s, ⟨_, k :: _⟩ => (.num ((s + k) % m), .int s)
  | .counter _, .num s, ⟨_, []⟩ => (.num s, .int s)
  | .register _, .num s, ⟨w, k :: _⟩ => (.num k, if w = "trade" then .int s else .none)
  | .register _, .num s, ⟨_, []⟩ => (.num s, .int s)
  | .stack r _, .seq ns, ⟨_, k :: _⟩ => if (ns.length : Int) = r then (.seq ns, .bool false) else (.seq (ns ++ [k]), .bool true)
  | .stack _ _, .seq ns, ⟨_, []⟩ => if ns = [] then (.seq ns, .none) else (.seq ns.dropLast, .int (ns.getLastD 0))
  | .queue r _, .seq ns, ⟨_, k :: _⟩ => if (ns.length : Int) = r then (.seq ns, .bool false) else (.seq (ns ++ [k]), .bool true)
  | .queue _ _, .seq ns, ⟨_, []⟩ => if ns = [] then (.seq ns, .none) else (.seq ns.tail, .int (ns.headD 0))
  | .set _, .seq ns, ⟨w, k :: _⟩ => if w = "has" then (.seq ns, .bool (ns.contains k)) else if w = "add" then (if ns.contains k then (.seq ns, .bool false) else (.seq (ins k ns), .bool true)) else (.seq (ns.filter fun x => !decide (x = k)), .bool (ns.contains k))
  | .agree _, .non, ⟨_, k :: _⟩ => (.num k, .int k)
  | .agree _, .num s, _ => (.num s, .int s)
  | .bank _, .seq ns, ⟨_, [k]⟩ => (.seq ns, .int (ns.getD k.toNat 0))
  | .bank _, .seq ns, ⟨_, [a, b, x]⟩ => if ns.getD a.toNat 0 < x then (.seq ns, .bool false) else (.seq ((ns.set a.toNat (ns.getD a.toNat 0 - x)).set b.toNat ((ns.set a.toNat (ns.getD a.toNat 0 - x)).getD b.toNat 0 + x)), .bool true)
  | .table rows, .num s, ⟨_, k :: _⟩ => (.num ((rows.getD s.toNat []).getD k.toNat (0, 0)).1, .int ((rows.getD s.toNat []).getD k.toNat (0, 0)).2)
  | _, s, _ => (s, .none)
def Th.first : Th → Sta
  | .counter _ => .num 0
  | .register _ => .num 0
  | .table _ => .num 0
  | .agree _ => .non
  | .bank ns => .seq ns
  | _ => .seq []
def subs (m : Int) : List (List Int) := if m = 2 then [[], [0], [1], [0, 1]] else [[], [0], [1], [2], [0, 1], [0, 2], [1, 2], [0, 1, 2]]
/-- what states can be -/
def Th.okS : Th → Sta → Prop
  | .counter m, .num s => 0 ≤ s ∧ s < m
  | .register m, .num s => 0 ≤ s ∧ s < m
  | .stack r m, .seq ns => (ns.length : Int) ≤ r ∧ ∀ k ∈ ns, 0 ≤ k ∧ k < m
  | .queue r m, .seq ns => (ns.length : Int) ≤ r ∧ ∀ k ∈ ns, 0 ≤ k ∧ k < m
  | .set m, .seq ns => ns ∈ subs m
  | .agree _, .non => True
  | .agree m, .num s => 0 ≤ s ∧ s < m
  | .bank as, .seq ns => ns.length = as.length ∧ (∀ k ∈ ns, 0 ≤ k) ∧ ns.sum = as.sum
  | .table rows, .num s => 0 ≤ s ∧ s < (rows.length : Int)
  | _, _ => False
/-- what calls can be -/
def Th.okC : Th → Cal → Prop
  | .counter m, c => c = ⟨"look", []⟩ ∨ ∃ k, (1 ≤ k ∧ k < m) ∧ c = ⟨"add", [k]⟩
  | .register m, c => c = ⟨"look", []⟩ ∨ ∃ k, (0 ≤ k ∧ k < m) ∧ (c = ⟨"put", [k]⟩ ∨ c = ⟨"trade", [k]⟩)
  | .stack _ m, c => c = ⟨"pop", []⟩ ∨ ∃ k, (0 ≤ k ∧ k < m) ∧ c = ⟨"push", [k]⟩
  | .queue _ m, c => c = ⟨"leave", []⟩ ∨ ∃ k, (0 ≤ k ∧ k < m) ∧ c = ⟨"enter", [k]⟩
  | .set m, c => ∃ k, (0 ≤ k ∧ k < m) ∧ (c = ⟨"add", [k]⟩ ∨ c = ⟨"drop", [k]⟩ ∨ c = ⟨"has", [k]⟩)
  | .agree m, c => ∃ k, (0 ≤ k ∧ k < m) ∧ c = ⟨"decide", [k]⟩
  | .bank as, c => (∃ k, (0 ≤ k ∧ k < (as.length : Int)) ∧ c = ⟨"look", [k]⟩) ∨ ∃ a b x, (0 ≤ a ∧ a < (as.length : Int)) ∧ (0 ≤ b ∧ b < (as.length : Int)) ∧ a ≠ b ∧ (1 ≤ x ∧ x ≤ 3) ∧ c = ⟨"move", [a, b, x]⟩
  | .table rows, c => ∃ k, (0 ≤ k ∧ k < ((rows.headD []).length : Int)) ∧ c = ⟨"do", [k]⟩
theorem mem_mapC {c : Cal} {lo hi : Int} {w : Str} : c ∈ (iv lo hi).map (fun k => (⟨w, [k]⟩ : Cal)) ↔ ∃ k, (lo ≤ k ∧ k < hi) ∧ c = ⟨w, [k]⟩ := by
  rw [List.mem_map]
  constructor
  · rintro ⟨k, h, rfl⟩
    exact ⟨k, mem_iv.mp h, rfl⟩
  · rintro ⟨k, h, rfl⟩
    exact ⟨k, mem_iv.mpr h, rfl⟩
theorem Th.okC_of {t : Th} {c : Cal} (h : c ∈ t.calls) : t.okC c := by
  rw [Th.mem_calls] at h
  cases t with
  | counter m =>
    simp only [Th.callsU, List.mem_append, mem_mapC, List.mem_singleton] at h
    rcases h with ⟨k, hk, e⟩ | e
    · exact .inr ⟨k, hk, e⟩
    · exact .inl e
  | register m =>
    simp only [Th.callsU, List.mem_append, mem_mapC, List.mem_singleton] at h
    rcases h with (e | ⟨k, hk, e⟩) | ⟨k, hk, e⟩
    · exact .inl e
    · exact .inr ⟨k, hk, .inl e⟩
    · exact .inr ⟨k, hk, .inr e⟩
  | stack r m =>
    simp only [Th.callsU, List.mem_append, mem_mapC, List.mem_singleton] at h
    rcases h with ⟨k, hk, e⟩ | e
    · exact .inr ⟨k, hk, e⟩
    · exact .inl e
  | queue r m =>
    simp only [Th.callsU, List.mem_append, mem_mapC, List.mem_singleton] at h
    rcases h with ⟨k, hk, e⟩ | e
    · exact .inr ⟨k, hk, e⟩
    · exact .inl e
  | set m =>
    simp only [Th.callsU, List.mem_append, mem_mapC] at h
    rcases h with (⟨k, hk, e⟩ | ⟨k, hk, e⟩) | ⟨k, hk, e⟩
    · exact ⟨k, hk, .inl e⟩
    · exact ⟨k, hk, .inr (.inl e)⟩
    · exact ⟨k, hk, .inr (.inr e)⟩
  | agree m =>
    simp only [Th.callsU, mem_mapC] at h
    exact h
  | bank ns =>
    simp only [Th.callsU, bankC, List.mem_append, mem_mapC, List.mem_flatMap] at h
    rcases h with ⟨k, hk, e⟩ | ⟨a, ha, b, hb, h⟩
    · exact .inl ⟨k, hk, e⟩
    · refine .inr ?_
      rw [mem_iv] at ha hb
      split at h
      · next hab =>
        simp only [List.map_cons, List.map_nil, List.mem_cons, List.not_mem_nil, or_false] at h
        rcases h with e | e | e
        · exact ⟨a, b, 1, ha, hb, hab, by omega, e⟩
        · exact ⟨a, b, 2, ha, hb, hab, by omega, e⟩
        · exact ⟨a, b, 3, ha, hb, hab, by omega, e⟩
      · cases h
  | table rows =>
    simp only [Th.callsU, mem_mapC] at h
    exact h
theorem sub_ins {m k : Int} {ns : List Int} (hm : 2 ≤ m ∧ m ≤ 3) (h : ns ∈ subs m) (hk : 0 ≤ k ∧ k < m) (hc : ns.contains k = false) : ins k ns ∈ subs m := by
  have key : ∀ m ∈ [(2 : Int), 3], ∀ ns ∈ subs m, ∀ k ∈ iv 0 m, ns.contains k = false → ins k ns ∈ subs m := by decide +kernel
  exact key m (by rcases two3 hm with rfl | rfl <;> decide) ns h k (mem_iv.mpr hk) hc
theorem sub_del {m k : Int} {ns : List Int} (hm : 2 ≤ m ∧ m ≤ 3) (h : ns ∈ subs m) (hk : 0 ≤ k ∧ k < m) : (ns.filter fun x => !decide (x = k)) ∈ subs m := by
  have key : ∀ m ∈ [(2 : Int), 3], ∀ ns ∈ subs m, ∀ k ∈ iv 0 m, (ns.filter fun x => !decide (x = k)) ∈ subs m := by decide +kernel
  exact key m (by rcases two3 hm with rfl | rfl <;> decide) ns h k (mem_iv.mpr hk)
def intChk (l m : List Int) : Bool := m.isPerm l && sortChk (l.map .int) (m.map .int) && strict (m.map .int)
theorem intOk {l m : List Int} (h : intChk l m = true) : SortOk (l.map .int) (m.map .int) := by
  simp only [intChk, Bool.and_eq_true] at h
  exact sortOk_of ((List.isPerm_iff.mp h.1.1).map _) h.1.2 h.2
theorem sub_sort {m k : Int} {ns : List Int} (hm : 2 ≤ m ∧ m ≤ 3) (h : ns ∈ subs m) (hk : 0 ≤ k ∧ k < m) (hc : ns.contains k = false) : SortOk ((ns ++ [k]).map .int) ((ins k ns).map .int) := by
  have key : ∀ m ∈ [(2 : Int), 3], ∀ ns ∈ subs m, ∀ k ∈ iv 0 m, ns.contains k = false → intChk (ns ++ [k]) (ins k ns) = true := by decide +kernel
  exact intOk (key m (by rcases two3 hm with rfl | rfl <;> decide) ns h k (mem_iv.mpr hk) hc)
/-- the law's way -/
theorem sub_sortL {m k : Int} {ns : List Int} (hm : 2 ≤ m ∧ m ≤ 3) (h : ns ∈ subs m) (hk : 0 ≤ k ∧ k < m) : SortOk (((ns.filter fun x => !decide (x = k)) ++ [k]).map .int) ((if ns.contains k then ns else ins k ns).map .int) := by
  have key : ∀ m ∈ [(2 : Int), 3], ∀ ns ∈ subs m, ∀ k ∈ iv 0 m, intChk ((ns.filter fun x => !decide (x = k)) ++ [k]) (if ns.contains k then ns else ins k ns) = true := by decide +kernel
  exact intOk (key m (by rcases two3 hm with rfl | rfl <;> decide) ns h k (mem_iv.mpr hk))
theorem sub_sort0 {m k : Int} {ns : List Int} (hm : 2 ≤ m ∧ m ≤ 3) (h : ns ∈ subs m) (hk : 0 ≤ k ∧ k < m) : SortOk (((ns.filter fun x => !decide (x = k))).map .int) ((ns.filter fun x => !decide (x = k)).map .int) := by
  have key : ∀ m ∈ [(2 : Int), 3], ∀ ns ∈ subs m, ∀ k ∈ iv 0 m, intChk (ns.filter fun x => !decide (x = k)) (ns.filter fun x => !decide (x = k)) = true := by decide +kernel
  exact intOk (key m (by rcases two3 hm with rfl | rfl <;> decide) ns h k (mem_iv.mpr hk))
theorem Th.first_ok {t : Th} (h : t.ok) : t.okS t.first := by
  cases t with
  | counter m => exact ⟨by decide, by have := h.1; omega⟩
  | register m => exact ⟨by decide, by have := h.1; omega⟩
  | stack r m => exact ⟨by have := h.1; simp; omega, fun k hk => by cases hk⟩
  | queue r m => exact ⟨by have := h.1; simp; omega, fun k hk => by cases hk⟩
  | set m => 
    show [] ∈ subs m
    unfold subs
    by_cases e : m = 2
    · rw [if_pos e]
      decide
    · rw [if_neg e]
      decide
  | agree m => trivial
  | bank ns => exact ⟨rfl, fun k hk => (h.2 k hk).1, rfl⟩
  | table rows => exact ⟨by decide, by have := h.1.1; omega⟩
theorem two_or {α : Type} {l : List α} (h : l.length = 2 ∨ l.length = 3) : (∃ a b, l = [a, b]) ∨ ∃ a b c, l = [a, b, c] := by
  rcases l with _ | ⟨a, _ | ⟨b, _ | ⟨c, _ | ⟨d, l⟩⟩⟩⟩
  · simp at h
  · simp at h
  · exact .inl ⟨a, b, rfl⟩
  · exact .inr ⟨a, b, c, rfl⟩
  · simp at h
theorem getD_mem {α : Type} {l : List α} {i : Nat} (d : α) (h : i < l.length) : l.getD i d ∈ l := by
  rw [List.getD_eq_getElem?_getD, List.getElem?_eq_getElem h]
  exact List.getElem_mem h
theorem Th.step_ok {t : Th} {s : Sta} {c : Cal} (h : t.ok) (hs : t.okS s) (hc : c ∈ t.calls) : t.okS (t.step s c).1 := by
  have hc := Th.okC_of hc
  cases t with
  | counter m =>
    cases s with
    | num s =>
      rcases hc with rfl | ⟨k, hk, rfl⟩
      · exact hs
      · have h1 : (0 : Int) < m := by have := h.1; omega
        exact ⟨Int.emod_nonneg _ (by omega), Int.emod_lt_of_pos _ h1⟩
    | _ => exact hs.elim
  | register m =>
    cases s with
    | num s =>
      rcases hc with rfl | ⟨k, hk, rfl | rfl⟩
      · exact hs
      · exact hk
      · exact hk
    | _ => exact hs.elim
  | stack r m =>
    cases s with
    | seq ns =>
      rcases hc with rfl | ⟨k, hk, rfl⟩
      · show Th.okS (.stack r m) (if ns = [] then (Sta.seq ns, PyData.none) else (.seq ns.dropLast, .int (ns.getLastD 0))).1
        split
        · exact hs
        · refine ⟨?_, fun k hk => hs.2 k (List.dropLast_subset ns hk)⟩
          have := hs.1
          rw [List.length_dropLast]
          omega
      · show Th.okS (.stack r m) (if (ns.length : Int) = r then (Sta.seq ns, PyData.bool false) else (.seq (ns ++ [k]), .bool true)).1
        split
        · exact hs
        · next hn =>
          have := hs.1
          refine ⟨?_, fun x hx => ?_⟩
          · rw [List.length_append]
            simp
            omega
          · rcases List.mem_append.mp hx with z | z
            · exact hs.2 x z
            · rw [List.mem_singleton.mp z]
              exact hk
    | _ => exact hs.elim
  | queue r m =>
    cases s with
    | seq ns =>
      rcases hc with rfl | ⟨k, hk, rfl⟩
      · show Th.okS (.queue r m) (if ns = [] then (Sta.seq ns, PyData.none) else (.seq ns.tail, .int (ns.headD 0))).1
        split
        · exact hs
        · refine ⟨?_, fun k hk => hs.2 k (List.mem_of_mem_tail hk)⟩
          have := hs.1
          rw [List.length_tail]
          omega
      · show Th.okS (.queue r m) (if (ns.length : Int) = r then (Sta.seq ns, PyData.bool false) else (.seq (ns ++ [k]), .bool true)).1
        split
        · exact hs
        · next hn =>
          have := hs.1
          refine ⟨?_, fun x hx => ?_⟩
          · rw [List.length_append]
            simp
            omega
          · rcases List.mem_append.mp hx with z | z
            · exact hs.2 x z
            · rw [List.mem_singleton.mp z]
              exact hk
    | _ => exact hs.elim
  | set m =>
    cases s with
    | seq ns =>
      have hs : ns ∈ subs m := hs
      rcases hc with ⟨k, hk, rfl | rfl | rfl⟩
      · show Th.okS (.set m) (if ns.contains k then (Sta.seq ns, PyData.bool false) else (.seq (ins k ns), .bool true)).1
        split
        · exact hs
        · next hn => exact sub_ins h hs hk (Bool.eq_false_iff.mpr hn)
      · exact sub_del h hs hk
      · exact hs
    | _ => exact hs.elim
  | agree m =>
    obtain ⟨k, hk, rfl⟩ := hc
    cases s with
    | non => exact hk
    | num s => exact hs
    | seq ns => exact hs.elim
  | bank as =>
    cases s with
    | seq ns =>
      obtain ⟨h1, h2, h3⟩ := hs
      rcases hc with ⟨k, hk, rfl⟩ | ⟨a, b, x, ha, hb, hab, hx, rfl⟩
      · exact ⟨h1, h2, h3⟩
      · show Th.okS (.bank as) (if ns.getD a.toNat 0 < x then (Sta.seq ns, PyData.bool false) else (.seq ((ns.set a.toNat (ns.getD a.toNat 0 - x)).set b.toNat ((ns.set a.toNat (ns.getD a.toNat 0 - x)).getD b.toNat 0 + x)), .bool true)).1
        split
        · exact ⟨h1, h2, h3⟩
        · next hn =>
          rcases two_or h.1 with ⟨p, q, rfl⟩ | ⟨p, q, r, rfl⟩
          · rcases two_or (.inl h1) with ⟨u, v, rfl⟩ | ⟨u, v, w, rfl⟩
            · have hu := h2 u (by simp)
              have hv := h2 v (by simp)
              simp only [List.length_cons, List.length_nil] at ha hb
              rcases (by omega : (a = 0 ∧ b = 1) ∨ (a = 1 ∧ b = 0)) with ⟨rfl, rfl⟩ | ⟨rfl, rfl⟩
              all_goals
                simp [List.getD, List.set, Th.okS] at hn h3 ⊢
                omega
            · simp at h1
          · rcases two_or (.inr h1) with ⟨u, v, rfl⟩ | ⟨u, v, w, rfl⟩
            · simp at h1
            · have hu := h2 u (by simp)
              have hv := h2 v (by simp)
              have hw := h2 w (by simp)
              simp only [List.length_cons, List.length_nil] at ha hb
              rcases (by omega : (a = 0 ∧ b = 1) ∨ (a = 0 ∧ b = 2) ∨ (a = 1 ∧ b = 0) ∨ (a = 1 ∧ b = 2) ∨ (a = 2 ∧ b = 0) ∨ (a = 2 ∧ b = 1)) with ⟨rfl, rfl⟩ | ⟨rfl, rfl⟩ | ⟨rfl, rfl⟩ | ⟨rfl, rfl⟩ | ⟨rfl, rfl⟩ | ⟨rfl, rfl⟩
              all_goals
                simp [List.getD, List.set, Th.okS] at hn h3 ⊢
                omega
    | _ => exact hs.elim
  | table rows =>
    cases s with
    | num s =>
      obtain ⟨k, hk, rfl⟩ := hc
      obtain ⟨⟨r1, r2⟩, w, hw, hr⟩ := h
      obtain ⟨s1, s2⟩ := hs
      have e : (rows.headD []).length = w := by
        cases rows with
        | nil => simp at r1
        | cons r t => exact (hr r List.mem_cons_self).1
      rw [e] at hk
      have hlt : s.toNat < rows.length := by omega
      have hmem : rows.getD s.toNat [] ∈ rows := getD_mem _ hlt
      obtain ⟨q1, q2⟩ := hr _ hmem
      have hlt2 : k.toNat < (rows.getD s.toNat []).length := by omega
      have hmem2 : (rows.getD s.toNat []).getD k.toNat (0, 0) ∈ rows.getD s.toNat [] := getD_mem _ hlt2
      exact (q2 _ hmem2).1
    | _ => exact hs.elim
/-! the states that come -/
def seqs : Nat → List (List Int)
  | 0 => [[]]
  | n + 1 => [] :: (iv 0 16).flatMap fun k => (seqs n).map (k :: ·)
theorem mem_seqs : ∀ {n : Nat} {ns : List Int}, ns.length ≤ n → (∀ k ∈ ns, 0 ≤ k ∧ k < 16) → ns ∈ seqs n
  | 0, ns, h, _ => by
    have : ns = [] := List.length_eq_zero_iff.mp (by omega)
    subst this
    simp [seqs]
  | n + 1, [], _, _ => List.mem_cons_self
  | n + 1, k :: ns, h, hk => by
    refine List.mem_cons_of_mem _ (List.mem_flatMap.mpr ⟨k, mem_iv.mpr (hk k List.mem_cons_self), List.mem_map.mpr ⟨ns, mem_seqs (by simpa using h) fun x hx => hk x (List.mem_cons_of_mem _ hx), rfl⟩⟩)
def univ : List Sta := .non :: (iv 0 16).map .num ++ (seqs 3).map .seq
theorem univ_len : univ.length = 4386 := by decide +kernel
theorem sum_le : ∀ {ns : List Int}, (∀ k ∈ ns, 0 ≤ k) → ∀ k ∈ ns, k ≤ ns.sum
  | a :: ns, h, k, hk => by
    have ha := h a List.mem_cons_self
    have h2 : 0 ≤ ns.sum := by
      clear hk
      induction ns with
      | nil => simp
      | cons b l ih =>
        have hb := h b (by simp)
        have := ih fun x hx => h x (by
          rcases List.mem_cons.mp hx with z | z
          · simp [z]
          · simp [z])
        rw [List.sum_cons]
        omega
    rw [List.sum_cons]
    rcases List.mem_cons.mp hk with rfl | z
    · omega
    · have := sum_le (fun x hx => h x (List.mem_cons_of_mem _ hx)) k z
      omega
theorem bank_sum {ns : List Int} (h : Th.ok (.bank ns)) : ns.sum ≤ 15 ∧ (ns.length = 2 → ns.sum ≤ 10) := by
  rcases two_or h.1 with ⟨p, q, rfl⟩ | ⟨p, q, r, rfl⟩
  · have h1 := h.2 p (by simp)
    have h2 := h.2 q (by simp)
    simp
    omega
  · have h1 := h.2 p (by simp)
    have h2 := h.2 q (by simp)
    have h3 := h.2 r (by simp)
    simp
    omega
theorem sub_bound {m : Int} {ns : List Int} (hm : 2 ≤ m ∧ m ≤ 3) (h : ns ∈ subs m) : ns.length ≤ 3 ∧ ∀ k ∈ ns, 0 ≤ k ∧ k < 3 := by
  have key : ∀ m ∈ [(2 : Int), 3], ∀ ns ∈ subs m, ns.length ≤ 3 ∧ ∀ k ∈ ns, 0 ≤ k ∧ k < 3 := by decide +kernel
  exact key m (by rcases two3 hm with rfl | rfl <;> decide) ns h
theorem Th.okS_univ {t : Th} {s : Sta} (h : t.ok) (hs : t.okS s) : s ∈ univ := by
  have num : ∀ k, 0 ≤ k → k < 16 → Sta.num k ∈ univ := fun k h1 h2 => List.mem_cons_of_mem _ (List.mem_append.mpr (.inl (List.mem_map.mpr ⟨k, mem_iv.mpr ⟨h1, h2⟩, rfl⟩)))
  have seq : ∀ ns : List Int, ns.length ≤ 3 → (∀ k ∈ ns, 0 ≤ k ∧ k < 16) → Sta.seq ns ∈ univ := fun ns h1 h2 => List.mem_cons_of_mem _ (List.mem_append.mpr (.inr (List.mem_map.mpr ⟨ns, mem_seqs h1 h2, rfl⟩)))
  cases t with
  | counter m => cases s with
    | num k =>
      obtain ⟨a, b⟩ := hs
      exact num k a (by have := h.2; omega)
    | _ => exact hs.elim
  | register m => cases s with
    | num k =>
      obtain ⟨a, b⟩ := hs
      exact num k a (by have := h.2; omega)
    | _ => exact hs.elim
  | stack r m => cases s with
    | seq ns =>
      obtain ⟨a, b⟩ := hs
      exact seq ns (by have := h.1; omega) fun k hk => by have := b k hk; have := h.2; omega
    | _ => exact hs.elim
  | queue r m => cases s with
    | seq ns =>
      obtain ⟨a, b⟩ := hs
      exact seq ns (by have := h.1; omega) fun k hk => by have := b k hk; have := h.2; omega
    | _ => exact hs.elim
  | set m => cases s with
    | seq ns =>
      obtain ⟨a, b⟩ := sub_bound h hs
      exact seq ns a fun k hk => by have := b k hk; omega
    | _ => exact hs.elim
  | agree m => cases s with
    | non => exact List.mem_cons_self
    | num k =>
      obtain ⟨a, b⟩ := hs
      exact num k a (by have := h.2; omega)
    | seq ns => exact hs.elim
  | bank as => cases s with
    | seq ns =>
      obtain ⟨a, b, c⟩ := hs
      have d := bank_sum h
      exact seq ns (by rcases h.1 with e | e <;> omega) fun k hk => by
        have := sum_le b k hk
        have := b k hk
        omega
    | _ => exact hs.elim
  | table rows => cases s with
    | num k =>
      obtain ⟨a, b⟩ := hs
      exact num k a (by have := h.1.2; omega)
    | _ => exact hs.elim
theorem nodup_len {α : Type} [DecidableEq α] : ∀ {l u : List α}, l.Nodup → (∀ x ∈ l, x ∈ u) → l.length ≤ u.length
  | [], _, _, _ => Nat.zero_le _
  | a :: l, u, h, hs => by
    rw [List.nodup_cons] at h
    have ha : a ∈ u := hs a List.mem_cons_self
    have e := List.length_erase_of_mem ha
    have := nodup_len (u := u.erase a) h.2 fun x hx => (List.mem_erase_of_ne (fun z => h.1 (by rw [← z]; exact hx))).mpr (hs x (List.mem_cons_of_mem _ hx))
    have p : 0 < u.length := List.length_pos_of_mem ha
    rw [List.length_cons]
    omega
def addNew (f : List Sta) (s : Sta) : List Sta := if f.contains s then f else f ++ [s]
def Th.turn (t : Th) (s : Sta) (f : List Sta) (cs : List Cal) : List Sta := cs.foldl (fun f c => addNew f (t.step s c).1) f
def Th.bfs (t : Th) : Nat → List Sta → Nat → List Sta
  | 0, f, _ => f
  | n + 1, f, i => match f[i]? with
    | none => f
    | some s => t.bfs n (t.turn s f t.calls) (i + 1)
def Th.states (t : Th) : List Sta := t.bfs 5000 [t.first] 0
structure Th.Inv (t : Th) (f : List Sta) : Prop where
  nd : f.Nodup
  ok : ∀ s ∈ f, t.okS s
theorem Th.Inv.len {t : Th} {f : List Sta} (h : t.ok) (i : t.Inv f) : f.length ≤ 4386 := by
  have := nodup_len (u := univ) i.nd fun s hs => Th.okS_univ h (i.ok s hs)
  rw [univ_len] at this
  exact this
theorem Th.Inv.add {t : Th} {f : List Sta} {s : Sta} (i : t.Inv f) (hs : t.okS s) : t.Inv (addNew f s) := by
  unfold addNew
  split
  · exact i
  · next h =>
    have h : s ∉ f := fun z => h (List.contains_iff_mem.mpr z)
    refine ⟨?_, fun x hx => ?_⟩
    · rw [List.nodup_append]
      refine ⟨i.nd, by simp, fun a ha b hb => ?_⟩
      rw [List.mem_singleton.mp hb]
      exact fun z => h (z ▸ ha)
    · rcases List.mem_append.mp hx with z | z
      · exact i.ok x z
      · rw [List.mem_singleton.mp z]
        exact hs
theorem Th.Inv.turn {t : Th} {s : Sta} (h : t.ok) (hs : t.okS s) : ∀ {cs : List Cal} {f : List Sta}, t.Inv f → (∀ c ∈ cs, c ∈ t.calls) → t.Inv (t.turn s f cs)
  | [], _, i, _ => i
  | c :: cs, f, i, hc => Th.Inv.turn h hs (cs := cs) (i.add (Th.step_ok h hs (hc c List.mem_cons_self))) fun x hx => hc x (List.mem_cons_of_mem _ hx)
theorem addNew_len (f : List Sta) (s : Sta) : f.length ≤ (addNew f s).length := by
  unfold addNew
  split
  · exact Nat.le_refl _
  · rw [List.length_append]
    omega
theorem addNew_pre (f : List Sta) (s : Sta) : f <+: addNew f s := by
  unfold addNew
  split
  · exact List.prefix_refl _
  · exact List.prefix_append _ _
theorem turn_pre (t : Th) (s : Sta) : ∀ (cs : List Cal) (f : List Sta), f <+: t.turn s f cs
  | [], f => List.prefix_refl _
  | c :: cs, f => (addNew_pre f _).trans (turn_pre t s cs _)
theorem bfs_pre (t : Th) : ∀ (n : Nat) (f : List Sta) (i : Nat), f <+: t.bfs n f i
  | 0, f, _ => List.prefix_refl _
  | n + 1, f, i => by
    unfold Th.bfs
    split
    · exact List.prefix_refl _
    · exact (turn_pre t _ _ f).trans (bfs_pre t n _ _)
theorem bfs_inv {t : Th} (h : t.ok) : ∀ (n : Nat) (f : List Sta) (i : Nat), t.Inv f → t.Inv (t.bfs n f i)
  | 0, f, _, z => z
  | n + 1, f, i, z => by
    unfold Th.bfs
    split
    · exact z
    · next s e => exact bfs_inv h n _ _ (z.turn h (z.ok s (List.mem_of_getElem? e)) fun c hc => hc)
theorem Th.inv0 {t : Th} (h : t.ok) : t.Inv [t.first] := ⟨by simp, fun s hs => by rw [List.mem_singleton.mp hs]; exact Th.first_ok h⟩
theorem Th.states_inv {t : Th} (h : t.ok) : t.Inv t.states := bfs_inv h _ _ _ (Th.inv0 h)
theorem Th.states_head (t : Th) : t.states[0]? = some t.first := by
  obtain ⟨r, e⟩ := bfs_pre t 5000 [t.first] 0
  unfold Th.states
  rw [← e]
  rfl
/-! equality of data -/
theorem eqv_iv : ∀ (ns ms : List Int), PyData.eqvAll (ns.map .int) (ms.map .int) = decide (ns = ms)
  | [], [] => rfl
  | [], _ :: _ => rfl
  | _ :: _, [] => rfl
  | a :: ns, b :: ms => by
    show (a == b && PyData.eqvAll (ns.map .int) (ms.map .int)) = _
    rw [eqv_iv ns ms]
    by_cases h : a = b
    · subst h
      simp
    · simp [h]
theorem Sta.eqv (a b : Sta) : PyData.eqv a.d b.d = decide (a = b) := by
  cases a <;> cases b <;> simp [Sta.d, PyData.eqv, eqv_iv]
  all_goals rename_i x y; by_cases h : x = y <;> simp [h]
theorem Cal.eqv (a b : Cal) : PyData.eqv a.d b.d = decide (a = b) := by
  obtain ⟨w, ns⟩ := a
  obtain ⟨v, ms⟩ := b
  show (w == v && PyData.eqvAll (ns.map .int) (ms.map .int)) = _
  rw [eqv_iv]
  by_cases h : w = v <;> by_cases h2 : ns = ms <;> simp [h, h2]
theorem any_eqv (f : List Sta) (s : Sta) : ((f.map Sta.d).any fun z => PyData.eqv z s.d) = f.contains s := by
  rw [List.any_map, Bool.eq_iff_iff, List.any_eq_true, List.contains_iff_mem]
  constructor
  · rintro ⟨x, hx, e⟩
    have e : PyData.eqv x.d s.d = true := e
    rw [Sta.eqv] at e
    rw [← of_decide_eq_true e]
    exact hx
  · intro h
    refine ⟨s, h, ?_⟩
    show PyData.eqv s.d s.d = true
    rw [Sta.eqv]
    simp
end K00

/-! Part X. -/
set_option Elab.async false
set_option linter.all false
set_option autoImplicit false
set_option maxRecDepth 100000
set_option maxHeartbeats 4000000
/-! More readings: comprehensions of calls, two generators. -/
namespace K00
open PySem PySem.Spec PyProof.Rows L2
theorem room65 {k : Nat} {A : Around} (r : Room k A) : A.units + 65 < cLine := by
  have := r.un
  omega
section
variable {W : Wd} {H0 : Hp} {K : PySem.W.Frag} {E : List AV} {ta tb te : TE} {a : AR} {ds : List PyData}
theorem ev_lcW {wi : TI} {w : Str} {j : Nat} {vs : List Nat} {src : List PyData} (hi : EvI W H0 wi E (src.map .f)) (hj : j ∈ vs) (hl : src.length ≤ 50000) (he : j < (wipeE E vs).length) :
    Ev W H0 (tLc wi (gName j) tYes (tTup (tCons (tC (.str w)) (tCons (tVar j) tNil))) vs) E (.l (src.map fun d => .tuple [.str w, d])) :=
  ev_lc1 (fun d => .tuple [.str w, d]) hi hj hl fun d _ => ev_tup (as := [.f (.str w), .f d]) (eva_cons ev_str (eva_cons (ev_dat (by rw [List.getElem?_set_self he])) eva_nil)) rfl (by show 2 ≤ 100000; decide)
/-- the word stands in a slot -/
theorem ev_lcV {wi : TI} {w : Str} {i j : Nat} {vs : List Nat} {src : List PyData} (hw : (wipeE E vs)[i]? = some (.dat (.str w))) (hij : i ≠ j) (hi : EvI W H0 wi E (src.map .f)) (hj : j ∈ vs) (hl : src.length ≤ 50000) (he : j < (wipeE E vs).length) :
    Ev W H0 (tLc wi (gName j) tYes (tTup (tCons (tVar i) (tCons (tVar j) tNil))) vs) E (.l (src.map fun d => .tuple [.str w, d])) :=
  ev_lc1 (fun d => .tuple [.str w, d]) hi hj hl fun d _ => ev_tup (as := [.f (.str w), .f d]) (eva_cons (ev_dat (by rw [List.getElem?_set_ne hij.symm]; exact hw)) (eva_cons (ev_dat (by rw [List.getElem?_set_self he])) eva_nil)) rfl (by show 2 ≤ 100000; decide)
theorem yes_if {σ : L2.St} {H : Hp} {p q : Hp → Prop} (h : p H) : tYes σ H fun b H => if b = true then p H else q H := by
  show (if true = true then p H else q H)
  rw [if_pos rfl]
  exact h
theorem take_snoc {α : Type} {l : List α} {i : Nat} {d : α} (h : l[i]? = some d) : l.take (i + 1) = l.take i ++ [d] := by
  rw [List.take_succ, h]
  rfl
theorem Cw.next {H1 H H' : Hp} {D : Addr} (j1 : W.J H1) (hD : H1 D = none) (c : Cw W H1 D ds H) (n : Nx W H H') : Cw W H1 D ds H' := by
  obtain ⟨c1, acc, c2, c3⟩ := c
  exact ⟨c1.trans n, acc, n.1.lst c2 (W.nr j1 hD), c3.to n.1⟩
theorem rangeR_len (n : Int) : (rangeR 0 n).length = n.toNat := by
  unfold rangeR
  rw [List.length_map, List.length_range]
  congr 1
  omega
theorem rangeR_at {n : Int} {k : Nat} (h : k < n.toNat) : (rangeR 0 n)[k]? = some (.int (k : Int)) := by
  unfold rangeR
  rw [List.getElem?_map, List.getElem?_range (by omega)]
  simp
theorem ev_lc2 {wi : TI} {tn : TE} {j j1 : Nat} {vs vs1 : List Nat} {src : List PyData} {n : Int} (v : PyData → PyData → PyData) (hi : EvI W H0 wi E (src.map .f)) (hj : j ∈ vs) (hj1 : j1 ∈ vs1) (hn0 : 0 ≤ n ∧ n ≤ 100) (hl : src.length ≤ 100)
    (hn : ∀ d ∈ src, Ev W H0 tn ((wipeE E vs).set j (.dat d)) (.f (.int n))) (he : ∀ d ∈ src, ∀ e ∈ rangeR 0 n, Ev W H0 te ((wipeE ((wipeE E vs).set j (.dat d)) vs1).set j1 (.dat e)) (.f (v d e))) :
    Ev W H0 (tLc2 wi (gName j) tYes (iRng1 (tCons tn tNil)) (gName j1) tYes te vs vs1) E (.l (src.flatMap fun d => (rangeR 0 n).map (v d))) := fun σ H S Q k => hi σ H S _ fun J H1 n1 s => fun D hD => by
  have flen : ∀ l : List PyData, l.length ≤ 100 → (l.flatMap fun d => (rangeR 0 n).map (v d)).length ≤ 10000 := by
    intro l hl
    have e : (l.flatMap fun d => (rangeR 0 n).map (v d)).length = l.length * n.toNat := by
      clear hl
      induction l with
      | nil => simp
      | cons a l ih => rw [List.flatMap_cons, List.length_append, ih, List.length_map, rangeR_len, List.length_cons, Nat.succ_mul, Nat.add_comm]
    rw [e]
    exact Nat.le_trans (Nat.mul_le_mul hl (by omega : n.toNat ≤ 100)) (by decide)
  refine ⟨fun i m H => m = src.length - i ∧ i ≤ src.length ∧ Cw W H1 D ((src.take i).flatMap fun d => (rangeR 0 n).map (v d)) H, ⟨src.length, by simp, Nat.zero_le _, Cw.start n1.2 hD⟩, ?_⟩
  rintro i m H2 ⟨rfl, hi2, c⟩
  by_cases hlt : i < src.length
  · refine .inr ⟨s.go i H2 c.1 (by rw [List.length_map]; exact hlt), fun H => Cw W H1 D ((src.take (i + 1)).flatMap fun d => (rangeR 0 n).map (v d)) H, fun H' p' => ⟨src.length - (i + 1), by omega, rfl, hlt, p'⟩, fun x H' y => ?_⟩
    obtain ⟨e, q⟩ := s.yld i H2 x H' c.1 y
    subst e
    have hd : src[i]? = some src[i] := List.getElem?_eq_getElem hlt
    have hmem : src[i] ∈ src := List.getElem_mem hlt
    generalize src[i] = d at hd hmem
    have q : Fz H' x d := q (.f d) (by rw [List.getElem?_map, hd]; rfl)
    have S2 : Sat W H0 ((wipeE E vs).set j (.dat d)) ((L2.wipe σ vs).set j (some x)) H' := (((S.next n1).next c.1).wipe vs).set ⟨x, rfl, q⟩ fun _ _ z => by cases z
    refine ⟨wipe_set σ vs _ hj, ?_⟩
    refine yes_if ?_
    refine (hn d hmem).late S2 fun vn H4 n4 qn => ?_
    cases qn
    refine ⟨n, rfl, by omega, by omega, ?_⟩
    have s1 := src_range (W := W) (C := fun _ => True) 0 n.toNat
    rw [take_snoc hd, List.flatMap_append]
    refine ⟨fun k m H => m = n.toNat - k ∧ k ≤ n.toNat ∧ Fz H x d ∧ Cw W H1 D (((src.take i).flatMap fun d => (rangeR 0 n).map (v d)) ++ ((rangeR 0 n).take k).map (v d)) H, ⟨n.toNat, by simp, Nat.zero_le _, q.to n4.1, ?_⟩, ?_⟩
    · rw [List.take_zero, List.map_nil, List.append_nil]
      exact c.next n1.2 hD n4
    rintro k m H5 ⟨rfl, hk, q5, c5⟩
    by_cases hkl : k < n.toNat
    · refine .inr ⟨s1.go k H5 trivial (by rw [List.length_map, List.length_range]; exact hkl), fun H => Fz H x d ∧ Cw W H1 D (((src.take i).flatMap fun d => (rangeR 0 n).map (v d)) ++ ((rangeR 0 n).take (k + 1)).map (v d)) H, fun H' p' => ⟨n.toNat - (k + 1), by omega, rfl, hkl, p'⟩, fun x1 H6 y1 => ?_⟩
      obtain ⟨e, q1⟩ := s1.yld k H5 x1 H6 trivial y1
      subst e
      have q1 : Fz H6 x1 (.int (k : Int)) := by
        have := q1 (.f (.int (0 + (k : Nat)))) (by rw [List.getElem?_map, List.getElem?_range hkl]; rfl)
        rw [Int.zero_add] at this
        exact this
      have S5 : Sat W H0 ((wipeE E vs).set j (.dat d)) ((L2.wipe σ vs).set j (some x)) H6 := (((S.next n1).next c5.1).wipe vs).set ⟨x, rfl, q5⟩ fun _ _ z => by cases z
      have S6 : Sat W H0 ((wipeE ((wipeE E vs).set j (.dat d)) vs1).set j1 (.dat (.int (k : Int)))) ((L2.wipe ((L2.wipe σ vs).set j (some x)) vs1).set j1 (some x1)) H6 := (S5.wipe vs1).set ⟨x1, rfl, q1⟩ fun _ _ z => by cases z
      refine ⟨wipe_set _ vs1 _ hj1, ?_⟩
      refine yes_if ?_
      refine he d hmem (.int (k : Int)) (List.mem_of_getElem? (rangeR_at hkl)) _ H6 S6 _ fun y2 H7 n7 q7 => ?_
      have hlen : (((src.take i).flatMap fun d => (rangeR 0 n).map (v d)) ++ ((rangeR 0 n).take k).map (v d)).length < 100000 := by
        rw [List.length_append, List.length_map, List.length_take, rangeR_len]
        have := flen (src.take i) (by rw [List.length_take]; omega)
        omega
      obtain ⟨acc, h1, h2, h3⟩ := c5.more n1.2 hD n7 q7 hlen
      rw [take_snoc (rangeR_at hkl), List.map_append, ← List.append_assoc]
      refine ⟨acc, h1, h2, ⟨?_, ?_⟩⟩
      · exact Fz.keep (fun a zs z => by
          rw [upd_ne (ne_of z h1 (by intro y; cases y))]
          exact z) d x (q5.to n7.1)
      · exact h3
    · have e : k = n.toNat := by omega
      subst e
      refine .inl ⟨s1.stop _ H5 trivial (by rw [List.length_map, List.length_range]; exact Nat.le_refl _), ?_⟩
      rw [← rangeR_len, List.take_length] at c5
      rw [List.flatMap_cons, List.flatMap_nil, List.append_nil]
      exact c5
  · have e : i = src.length := by omega
    subst e
    refine .inl ⟨s.stop _ H2 c.1 (by rw [List.length_map]; exact Nat.le_refl _), ?_⟩
    rw [List.take_length] at c
    obtain ⟨c1, acc, c2, c3⟩ := c
    exact k _ H2 (n1.trans c1) ⟨D, acc, rfl, n1.fresh hD, c2, c3⟩
def strsD : List PyData → List Str
  | [] => []
  | .str x :: r => x :: strsD r
  | _ :: r => strsD r
def intsD : List PyData → List Int
  | [] => []
  | .int x :: r => x :: intsD r
  | _ :: r => intsD r
theorem ev_inT {x : Str} {b : AR} {neg : Bool} (ha : Ev W H0 ta E (.f (.str x))) (hb : Ev W H0 tb E b) (e : b = .l ds ∨ b = .g ds ∨ b = .f (.tuple ds)) (hs : ds = (strsD ds).map .str) :
    Ev W H0 (tOp (rIn K neg) ta tb) E (.f (.bool (if neg then !(strsD ds).contains x else (strsD ds).contains x))) :=
  ev_inS ha hb (by
    rcases e with e | e | e
    · exact .inl ⟨_, e, hs⟩
    · exact .inr (.inl ⟨_, e, hs⟩)
    · exact .inr (.inr (by rw [e, ← hs])))
theorem ev_inN {x : Int} {b : AR} {neg : Bool} (ha : Ev W H0 ta E (.f (.int x))) (hb : Ev W H0 tb E b) (e : b = .l ds ∨ b = .g ds ∨ b = .f (.tuple ds)) (hs : ds = (intsD ds).map .int) :
    Ev W H0 (tOp (rIn K neg) ta tb) E (.f (.bool (if neg then !(intsD ds).contains x else (intsD ds).contains x))) :=
  ev_inI ha hb (by
    rcases e with e | e | e
    · exact .inl ⟨_, e, hs⟩
    · exact .inr (.inl ⟨_, e, hs⟩)
    · exact .inr (.inr (by rw [e, ← hs])))
theorem rangeR_len2 (lo hi : Int) : (rangeR lo hi).length = (hi - lo).toNat := by
  unfold rangeR
  rw [List.length_map, List.length_range]
theorem atI0_head {α : Type} {l : List α} {d : α} (h : 1 ≤ l.length) : atI l 0 = some (l.headD d) := by
  cases l with
  | nil => simp at h
  | cons a l => exact atI_nat rfl
end
section
variable {X : Cx} {e : Expr} {es : List Expr} {ta : TA} {p pos : Pos}
theorem k_isinstanceK (K : PySem.W.Frag) (m : X.mg "isinstance" = none) (hg : Gl X "isinstance") (ha : PA X (e :: es) ta) (hK : X.K = K := by rfl) (he : starEach (e :: es) X.env = (false, eval e X.env) :: starEach es X.env := by rfl) (hpl : (backTo pos (starEach es X.env)).any (·.1) = false := by rfl) : PE X (.Call (.Name "isinstance" p) (e :: es) [] pos) (tCB (rIsi K) ta) := by
  subst hK
  exact k_isinstance m hg ha he hpl
theorem k_isinstanceTK (K : PySem.W.Frag) (m : X.mg "isinstance" = none) (hg : Gl X "isinstance") (ha : PA X (e :: es) ta) (hK : X.K = K := by rfl) (he : starEach (e :: es) X.env = (false, eval e X.env) :: starEach es X.env := by rfl) (hpl : (backTo pos (starEach es X.env)).any (·.1) = false := by rfl) : PE X (.Call (.Name "isinstance" p) (e :: es) [] pos) (tCB (rIsiT K) ta) := by
  subst hK
  exact k_isinstanceT m hg ha he hpl
theorem k_lenK (K : PySem.W.Frag) (m : X.mg "len" = none) (hg : Gl X "len") (ha : PA X (e :: es) ta) (hK : X.K = K := by rfl) (he : starEach (e :: es) X.env = (false, eval e X.env) :: starEach es X.env := by rfl) (hpl : (backTo pos (starEach es X.env)).any (·.1) = false := by rfl) : PE X (.Call (.Name "len" p) (e :: es) [] pos) (tCB (rLenZ K) ta) := by
  subst hK
  exact k_len m hg ha he hpl
theorem k_tupleK (K : PySem.W.Frag) (m : X.mg "tuple" = none) (hg : Gl X "tuple") (ha : PA X (e :: es) ta) (hK : X.K = K := by rfl) (he : starEach (e :: es) X.env = (false, eval e X.env) :: starEach es X.env := by rfl) (hpl : (backTo pos (starEach es X.env)).any (·.1) = false := by rfl) : PE X (.Call (.Name "tuple" p) (e :: es) [] pos) (tCB (rTupZ K) ta) := by
  subst hK
  exact k_tuple m hg ha he hpl
theorem k_listK (K : PySem.W.Frag) (m : X.mg "list" = none) (hg : Gl X "list") (ha : PA X (e :: es) ta) (hK : X.K = K := by rfl) (he : starEach (e :: es) X.env = (false, eval e X.env) :: starEach es X.env := by rfl) (hpl : (backTo pos (starEach es X.env)).any (·.1) = false := by rfl) : PE X (.Call (.Name "list" p) (e :: es) [] pos) (tCB (rLstZ K) ta) := by
  subst hK
  exact k_list m hg ha he hpl
end
end K00

/-! Part W. -/
set_option Elab.async false
set_option linter.all false
set_option autoImplicit false
set_option maxRecDepth 100000
set_option maxHeartbeats 4000000
/-! Two lists at once. -/
namespace K00
open PySem PySem.Spec PyProof.Rows L2
section
variable {W : Wd} {H0 : Hp} {K : PySem.W.Frag} {E : List AV} {ta tb te tc : TE} {t tt : TT} {ts tu tw tz : TS} {D : Ends} {d e : PyData} {ds es : List PyData} {i j l : Nat}
theorem st_parOwn3 (h1 : Ev W H0 ta E (.l ds)) (h2 : Ev W H0 tb E (.f d)) (h3 : Ev W H0 tc E (.l es)) (hi : i ≠ l) (hj : j ≠ l) (hij : i ≠ j) (k : ∀ p q σ H, Sat W H0 (((E.set i (.own p ds)).set j (.dat d)).set l (.own q es)) σ H → D.nx σ H) :
    Go W H0 (tPar3 i j l (tCons ta (tCons tb (tCons tc tNil)))) D E := fun σ H S => h1 σ H S _ fun u H1 n1 q1 => by
  obtain ⟨p, xs, rfl, hn, hp, t1⟩ := q1
  refine h2 σ H1 (S.next n1) _ fun v H2 n2 q2 => h3 σ H2 ((S.next n1).next n2) _ fun w H3 n3 q3 => ?_
  obtain ⟨q, ys, rfl, hn3, hp3, t3⟩ := q3
  have S1 : Sat W H0 (E.set i (.own p ds)) (σ.set i (some (.ref p))) H1 := S.setOwn n1 hn hp t1
  exact ⟨_, _, _, rfl, k p q _ H3 (((S1.next n2).dat q2).setOwn n3 hn3 hp3 t3)⟩
theorem st_parOwn2 (h1 : Ev W H0 ta E (.l ds)) (h2 : Ev W H0 tb E (.f d)) (k : ∀ p σ H, Sat W H0 ((E.set i (.own p ds)).set j (.dat d)) σ H → D.nx σ H) :
    Go W H0 (tPar i j (tCons ta (tCons tb tNil))) D E := fun σ H S => h1 σ H S _ fun u H1 n1 q1 => by
  obtain ⟨p, xs, rfl, hn, hp, t1⟩ := q1
  refine h2 σ H1 (S.next n1) _ fun v H2 n2 q2 => ?_
  have S1 : Sat W H0 (E.set i (.own p ds)) (σ.set i (some (.ref p))) H1 := S.setOwn n1 hn hp t1
  exact ⟨_, _, rfl, k p _ H2 ((S1.next n2).dat q2)⟩
theorem q_parOwn3 (h1 : Ev W H0 ta E (.l ds)) (h2 : Ev W H0 tb E (.f d)) (h3 : Ev W H0 tc E (.l es)) (hi : i ≠ l) (hj : j ≠ l) (hij : i ≠ j) (k : ∀ p q, Go W H0 tz D (((E.set i (.own p ds)).set j (.dat d)).set l (.own q es))) :
    Go W H0 (tSeq (tPar3 i j l (tCons ta (tCons tb (tCons tc tNil)))) tz) D E := go_seq (st_parOwn3 h1 h2 h3 hi hj hij k)
theorem q_parOwn2 (h1 : Ev W H0 ta E (.l ds)) (h2 : Ev W H0 tb E (.f d)) (k : ∀ p, Go W H0 tz D ((E.set i (.own p ds)).set j (.dat d))) :
    Go W H0 (tSeq (tPar i j (tCons ta (tCons tb tNil))) tz) D E := go_seq (st_parOwn2 h1 h2 k)
/-- at p the list es -/
def Lst (p : Addr) (es : List PyData) (H : Hp) : Prop := ∃ xs, H p = some (.lst xs) ∧ FzAll H xs es
theorem Lst.next {p : Addr} {H H' : Hp} (h : Lst p es H) (nr : ¬ W.R p) (n : Nx W H H') : Lst p es H' := by
  obtain ⟨xs, hp, t⟩ := h
  exact ⟨xs, n.1.lst hp nr, t.to n.1⟩
/-- a for over a new list, one's own list in slot i changes -/
theorem st_forTmp {tb : TS} {pf : Addr} {i0 : Nat} {ds0 : List PyData} (h : Ev W H0 te E (.l es)) (ho : E[i0]? = some (.own pf ds0)) (P : Nat → List AV → Prop) (h0 : P 0 E)
    (hs : ∀ p, pf ≠ p → ¬ W.R p → ∀ n d E', es[n]? = some d → P n E' → ∀ σ H, Sat W H0 (E'.set j (.dat d)) σ H → Lst p es H →
      tb { D with nx := fun σ H => ∃ E'', P (n + 1) E'' ∧ Sat W H0 E'' σ H ∧ Lst p es H, ct := fun σ H => ∃ E'', P (n + 1) E'' ∧ Sat W H0 E'' σ H ∧ Lst p es H, bk := D.nx } σ H)
    (hd : ∀ E', P es.length E' → ∀ σ H, Sat W H0 E' σ H → D.nx σ H) : Go W H0 (tFor (iList K te) (gName j) tb) D E := fun σ H S => h σ H S _ fun v H1 n1 q => by
  obtain ⟨p, xs, rfl, hn, hp, t⟩ := q
  have nr : ¬ W.R p := W.frR hn
  have hne : pf ≠ p := fun z => by
    obtain ⟨_, zs, hz, _⟩ := own_at S ho
    rw [z] at hz
    exact W.frl hn hz
  refine ⟨p, rfl, ⟨xs, SqL.of hp⟩, ?_⟩
  refine for_src (W := W) (src := es.map .f) (wi := iList K te) (C := Lst p es) (P := fun n σ H => ∃ E', P n E' ∧ Sat W H0 E' σ H ∧ Lst p es H) (src_lst fun H c => c) (fun n σ H q => by obtain ⟨_, _, _, c⟩ := q; exact c) ⟨E, h0, S.next n1, xs, hp, t⟩ (fun n a x σ2 H2 ha q r => ?_) (fun σ2 H2 q => ?_)
  · obtain ⟨E', q, S2, c⟩ := q
    rw [List.getElem?_map] at ha
    cases e : es[n]? with
    | none =>
      rw [e] at ha
      cases ha
    | some d =>
      rw [e] at ha
      cases ha
      exact hs p hne nr n d E' e q _ H2 (S2.dat r) c
  · obtain ⟨E', q, S2, c⟩ := q
    rw [List.length_map] at q
    exact hd E' q σ2 H2 S2
/-- x = te; if tt: l.append(x) -/
theorem go_keep {p pf : Addr} {b : Bool} (h : Ev W H0 te E (.f d)) (ht : EvT W H0 tt (E.set j (.dat d)) b) (hj : j < E.length) (hij : i ≠ j) (ho : E[i]? = some (.own pf ds)) (hg : ∀ a ∈ E.set j (.dat d), ∀ d, a ≠ .gen d) (hl : ds.length < 100000) (hne : pf ≠ p) (nr : ¬ W.R p)
    {σ : L2.St} {H : Hp} (S : Sat W H0 E σ H) (c : Lst p es H) (k : ∀ σ H, Sat W H0 ((E.set j (.dat d)).set i (.own pf (if b = true then ds ++ [d] else ds))) σ H → Lst p es H → D.nx σ H) :
    tSeq (tAsg te (gName j)) (tIfS tt (tDrop (tBM K "list" rAppend (tVar i) (tCons (tVar j) tNil))) tNext) D σ H := h σ H S _ fun v H1 n1 q1 => by
  have S1 : Sat W H0 (E.set j (.dat d)) (σ.set j (some v)) H1 := (S.next n1).dat q1
  have ho1 : (E.set j (.dat d))[i]? = some (.own pf ds) := by rw [List.getElem?_set_ne hij.symm]; exact ho
  refine ht _ H1 S1 _ fun H2 n2 => ?_
  have S2 := S1.next n2
  have c2 := (c.next nr n1).next nr n2
  cases b with
  | true =>
    rw [if_pos rfl]
    obtain ⟨e1, xs0, hp0, t0⟩ := own_at S2 ho1
    have hv : Ev W H0 (tVar j) (E.set j (.dat d)) (.f d) := ev_dat (by rw [List.getElem?_set_self hj])
    refine ⟨_, e1, .inl ⟨rfl, xs0, SqL.of hp0⟩, hv _ H2 S2 _ fun v H3 n3 q3 => ?_⟩
    obtain ⟨e2, xs, hp, t⟩ := own_at (S2.next n3) ho1
    refine ⟨pf, xs, v, rfl, rfl, hp, sz_lt' (by rw [t.length]; exact hl), k _ _ ((S2.next n3).chOwn ho1 hg (t.append (.cons q3 .nil))) ?_⟩
    obtain ⟨ys, hy, ty⟩ := c2.next nr n3
    exact ⟨ys, by rw [upd_ne (Ne.symm hne)]; exact hy, FzAll.keep (fun a zs z => by
      rw [upd_ne (ne_of z hp (by intro y; cases y))]
      exact z) _ _ ty⟩
  | false =>
    rw [if_neg (by decide)]
    have e : (E.set j (.dat d)).set i (.own pf (if false = true then ds ++ [d] else ds)) = E.set j (.dat d) := by
      rw [if_neg (by decide)]
      apply List.ext_getElem?
      intro n
      by_cases hn : i = n
      · subst hn
        have hi : i < (E.set j (.dat d)).length := (List.getElem?_eq_some_iff.mp ho1).1
        rw [List.getElem?_set_self hi, ho1]
      · rw [List.getElem?_set_ne hn]
    refine k _ H2 ?_ c2
    rw [e]
    exact S2
end
end K00

/-! Part A. -/
set_option Elab.async false
set_option linter.all false
set_option autoImplicit false
set_option maxRecDepth 100000
set_option maxHeartbeats 4000000
/-! What is an object. -/
namespace K00
open PySem PySem.Spec PyProof.Rows L2
local macro_rules | `(tactic| walk_at "k00a") => `(tactic| first
  | (with_reducible exact eva_nil)
  | ((with_reducible refine' eva_cons ?k1 ?k2); (case k1 => walk_at "k00e"); (case k2 => walk_at "k00a"))
  | ((with_reducible refine' eva_star ?k1 ?k2); (case k1 => walk_at "k00e"); (case k2 => walk_at "k00a")))
local macro_rules | `(tactic| walk_at "k00o") => `(tactic| first
  | (with_reducible exact evo_no)
  | ((with_reducible refine' evo_some ?k1); (case k1 => walk_at "k00e")))
local macro_rules | `(tactic| walk_at "k00e") => `(tactic| first
  | (with_reducible exact ev_int)
  | (with_reducible exact ev_str)
  | (with_reducible exact ev_bl)
  | (with_reducible exact ev_non)
  | ((with_reducible refine' ev_dat ?k1); (case k1 => rfl))
  | ((with_reducible refine' ev_own ?k1); (case k1 => rfl))
  | ((with_reducible refine' ev_argF ?k1 ?k2); (case k1 => rfl); (case k2 => rfl))
  | ((with_reducible refine' ev_arg ?k1); (case k1 => rfl))
  | ((with_reducible refine' ev_genF ?k1 ?k2); (case k1 => rfl); (case k2 => rfl))
  | ((with_reducible refine' ev_gen ?k1); (case k1 => rfl))
  | ((with_reducible refine' ev_raw ?k1); (case k1 => rfl))
  | ((with_reducible refine' ev_ixT ?k1 ?k2 ?k3); (case k1 => walk_at "k00e"); (case k2 => walk_at "k00e"); (case k3 => walk_at "k00i"))
  | ((with_reducible refine' ev_ixL ?k1 ?k2 ?k4 ?k3); (case k1 => walk_at "k00e"); (case k2 => walk_at "k00e"); (case k4 => first | exact Or.inl rfl | exact Or.inr rfl); (case k3 => walk_at "k00i"))
  | ((with_reducible refine' ev_isInt ?k1 ?k2); (case k1 => walk_at "k00e"); (case k2 => rfl))
  | ((with_reducible refine' ev_isBool ?k1 ?k2); (case k1 => walk_at "k00e"); (case k2 => rfl))
  | ((with_reducible refine' ev_isStr ?k1 ?k2); (case k1 => walk_at "k00e"); (case k2 => rfl))
  | ((with_reducible refine' ev_isTup ?k1 ?k2); (case k1 => walk_at "k00e"); (case k2 => rfl))
  | ((with_reducible refine' ev_isLst ?k1 ?k2); (case k1 => walk_at "k00e"); (case k2 => rfl))
  | ((with_reducible refine' ev_isSeq ?k1 ?k2); (case k1 => walk_at "k00e"); (case k2 => rfl))
  | ((with_reducible refine' ev_lenB ?k1 ?k2); (case k1 => walk_at "k00e"); (case k2 => first | exact Or.inl rfl | exact Or.inr rfl))
  | ((with_reducible refine' ev_int2 ?k1 ?k2); (case k1 => walk_at "k00e"); (case k2 => walk_at "k00e"))
  | ((with_reducible refine' ev_cmp2 ?k1 ?k2); (case k1 => walk_at "k00e"); (case k2 => walk_at "k00e"))
  | ((with_reducible refine' ev_intC ?k1 ?k2 ?k3); (case k1 => walk_at "k00e"); (case k2 => walk_at "k00e"); (case k3 => walk_at "k00c"))
  | ((with_reducible refine' ev_eqS ?k1 ?k2); (case k1 => walk_at "k00e"); (case k2 => walk_at "k00e"))
  | ((with_reducible refine' ev_eqI ?k1 ?k2); (case k1 => walk_at "k00e"); (case k2 => walk_at "k00e"))
  | ((with_reducible refine' ev_neI ?k1 ?k2); (case k1 => walk_at "k00e"); (case k2 => walk_at "k00e"))
  | ((with_reducible refine' ev_eqB ?k1 ?k2); (case k1 => walk_at "k00e"); (case k2 => walk_at "k00e"))
  | ((with_reducible refine' ev_neB ?k1 ?k2); (case k1 => walk_at "k00e"); (case k2 => walk_at "k00e"))
  | ((with_reducible refine' ev_eqD ?k1 ?k2 ?k3 ?k4 ?k5 ?k6); (case k1 => walk_at "k00e"); (case k2 => walk_at "k00e"); (case k3 => rfl); (case k4 => rfl); (case k5 => walk_at "k00s"); (case k6 => walk_at "k00s"))
  | ((with_reducible refine' ev_neD ?k1 ?k2 ?k3 ?k4 ?k5 ?k6); (case k1 => walk_at "k00e"); (case k2 => walk_at "k00e"); (case k3 => rfl); (case k4 => rfl); (case k5 => walk_at "k00s"); (case k6 => walk_at "k00s"))
  | ((with_reducible refine' ev_inD ?k1 ?k2 ?k3 ?k4 ?k5 ?k6); (case k1 => walk_at "k00e"); (case k2 => walk_at "k00e"); (case k3 => rfl); (case k4 => rfl); (case k5 => walk_at "k00s"); (case k6 => walk_at "k00s"))
  | ((with_reducible refine' ev_niD ?k1 ?k2 ?k3 ?k4 ?k5 ?k6); (case k1 => walk_at "k00e"); (case k2 => walk_at "k00e"); (case k3 => rfl); (case k4 => rfl); (case k5 => walk_at "k00s"); (case k6 => walk_at "k00s"))
  | ((with_reducible refine' ev_isNone ?k1 ?k2); (case k1 => walk_at "k00e"); (case k2 => rfl))
  | ((with_reducible refine' ev_notNone ?k1 ?k2); (case k1 => walk_at "k00e"); (case k2 => rfl))
  | ((with_reducible refine' ev_neg ?k1); (case k1 => walk_at "k00e"))
  | ((with_reducible refine' ev_tup ?k1 ?k2 ?k3); (case k1 => walk_at "k00a"); (case k2 => first | rfl | exact allF_app _ _); (case k3 => walk_at "k00l"))
  | ((with_reducible refine' ev_lst ?k1 ?k2 ?k3); (case k1 => walk_at "k00a"); (case k2 => first | rfl | exact allF_app _ _); (case k3 => walk_at "k00l"))
  | ((with_reducible refine' ev_slT ?k1 ?k2 ?k3); (case k1 => walk_at "k00e"); (case k2 => walk_at "k00o"); (case k3 => walk_at "k00o"))
  | ((with_reducible refine' ev_catT ?k1 ?k2 ?k3); (case k1 => walk_at "k00e"); (case k2 => walk_at "k00e"); (case k3 => walk_at "k00l"))
  | ((with_reducible refine' ev_cat ?k1 ?k2 ?k4 ?k5 ?k3); (case k1 => walk_at "k00e"); (case k2 => walk_at "k00e"); (case k4 => first | exact Or.inl rfl | exact Or.inr rfl); (case k5 => first | exact Or.inl rfl | exact Or.inr rfl); (case k3 => walk_at "k00l"))
  | ((with_reducible refine' ev_tupOf ?k1 ?k2); (case k1 => walk_at "k00e"); (case k2 => first | exact Or.inl rfl | exact Or.inr rfl))
  | ((with_reducible refine' ev_lstOf ?k1); (case k1 => walk_at "k00e"))
  | ((with_reducible refine' ev_intI ?k1); (case k1 => walk_at "k00e"))
  | ((with_reducible refine' ev_intB ?k1); (case k1 => walk_at "k00e"))
  | ((with_reducible refine' ev_and0 ?k1 ?k2); (case k1 => walk_at "k00e"); (case k2 => first | rfl | assumption))
  | ((with_reducible refine' ev_or1 ?k1 ?k2); (case k1 => walk_at "k00e"); (case k2 => first | rfl | assumption))
  | ((with_reducible refine' ev_ifT ?k1 ?k2 ?k3); (case k1 => walk_at "k00t"); (case k2 => first | rfl | assumption); (case k3 => walk_at "k00e"))
  | ((with_reducible refine' ev_ifF ?k1 ?k2 ?k3); (case k1 => walk_at "k00t"); (case k2 => first | rfl | assumption); (case k3 => walk_at "k00e"))
  | ((with_reducible refine' ev_andV ?k1 ?k2); (case k1 => walk_at "k00e"); (case k2 => intro hb; walk_at "k00e"))
  | ((with_reducible refine' ev_orV ?k1 ?k2); (case k1 => walk_at "k00e"); (case k2 => intro hb; walk_at "k00e"))
  | ((with_reducible refine' ev_notV ?k1); (case k1 => walk_at "k00e"))
  | ((with_reducible refine' ev_chain ?k1 ?k2 ?k3); (case k1 => walk_at "k00e"); (case k2 => walk_at "k00e"); (case k3 => walk_at "k00e"))
  | ((with_reducible refine' ev_inT ?k1 ?k2 ?k3 ?k4); (case k1 => walk_at "k00e"); (case k2 => walk_at "k00e"); (case k3 => walk_at "k00w"); (case k4 => rfl))
  | ((with_reducible refine' ev_inN ?k1 ?k2 ?k3 ?k4); (case k1 => walk_at "k00e"); (case k2 => walk_at "k00e"); (case k3 => walk_at "k00w"); (case k4 => rfl))
  | ((with_reducible refine' ev_inI ?k1 ?k2 ?k3); (case k1 => walk_at "k00e"); (case k2 => walk_at "k00e"); (case k3 => exact Or.inr (Or.inr rfl)))
  | ((with_reducible refine' ev_lcW ?k1 ?k2 ?k3 ?k4); (case k1 => walk_at "k00n"); (case k2 => decide); (case k3 => walk_at "k00x"); (case k4 => first | decide | exact of_decide_eq_true rfl))
  | walk_at "k00r"
  | (with_reducible exact ev_c))
local macro_rules | `(tactic| walk_at "k00k") => `(tactic| first
  | exact Coes.nil
  | ((refine' Coes.cons ?k1 ?k2); (case k1 => first | exact coe_rfl | exact coe_b rfl); (case k2 => walk_at "k00k")))
local macro_rules | `(tactic| walk_at "k00i") => `(tactic| first | rfl | assumption)
local macro_rules | `(tactic| walk_at "k00c") => `(tactic| first | trivial | decide | omega | assumption)
local macro_rules | `(tactic| walk_at "k00l") => `(tactic| first | decide | (simp; done) | (simp; omega) | omega | assumption | (simp [rangeR_len2, fzs]; done) | (simp [rangeR_len2, fzs]; omega))
local macro_rules | `(tactic| walk_at "k00s") => `(tactic| first | rfl | decide +kernel | assumption | exact Sh.shaped (by assumption))
local macro_rules | `(tactic| walk_at "k00t") => `(tactic| first
  | ((with_reducible refine' et_test ?k1); (case k1 => walk_at "k00e"))
  | ((with_reducible refine' et_B ?k1); (case k1 => walk_at "k00e"))
  | ((with_reducible refine' et_not ?k1); (case k1 => walk_at "k00t"))
  | ((with_reducible refine' et_and0 ?k1 ?k2); (case k1 => walk_at "k00t"); (case k2 => first | rfl | assumption))
  | ((with_reducible refine' et_or1 ?k1 ?k2); (case k1 => walk_at "k00t"); (case k2 => first | rfl | assumption))
  | ((with_reducible refine' et_and ?k1 ?k2); (case k1 => walk_at "k00t"); (case k2 => intro hb; walk_at "k00t"))
  | ((with_reducible refine' et_or ?k1 ?k2); (case k1 => walk_at "k00t"); (case k2 => intro hb; walk_at "k00t"))
  | (with_reducible exact et_yes))

local macro_rules | `(tactic| walk_at "k00n") => `(tactic| first
  | ((with_reducible refine' evi_rng1 ?k1 ?k2); (case k1 => walk_at "k00e"); (case k2 => walk_at "k00y"))
  | ((with_reducible refine' evi_rng2 ?k1 ?k2 ?k3); (case k1 => walk_at "k00e"); (case k2 => walk_at "k00e"); (case k3 => walk_at "k00y"))
  | ((with_reducible refine' evi_tup ?k1); (case k1 => walk_at "k00e"))
  | ((with_reducible refine' evi_lst ?k1 ?k2); (case k1 => walk_at "k00e"); (case k2 => first | exact Or.inl rfl | exact Or.inr rfl)))
local macro_rules | `(tactic| walk_at "k00y") => `(tactic| first | decide | omega | (simp; omega) | assumption)
local macro_rules | `(tactic| walk_at "k00x") => `(tactic| first | decide | assumption | (rw [rangeR_iv, List.length_map]; unfold iv; rw [List.length_map, List.length_range]; omega))
local macro_rules | `(tactic| walk_at "k00w") => `(tactic| first | exact Or.inr (Or.inr rfl) | exact Or.inl rfl | exact Or.inr (Or.inl rfl))
local macro_rules | `(tactic| walk_at "k00b") => `(tactic| first | decide +kernel | rfl | assumption | (simp; done))
local macro_rules | `(tactic| walk_at "k00g") => `(tactic| first
  | ((with_reducible refine' q_asgF ?k1 ?k2); (case k1 => walk_at "k00e"))
  | ((with_reducible refine' q_guardF ?k1 ?k2 ?k3); (case k1 => walk_at "k00t"); (case k2 => walk_at "k00b"))
  | ((with_reducible refine' q_guardT ?k1 ?k2 ?k3); (case k1 => walk_at "k00t"); (case k2 => walk_at "k00b"))
  | ((with_reducible refine' q_two ?k1 ?k2); (case k1 => walk_at "k00e"))
  | ((with_reducible refine' q_par ?k1 ?k2); (case k1 => walk_at "k00a"))
  | ((with_reducible refine' q_par3 ?k1 ?k2); (case k1 => walk_at "k00a")))
local macro_rules | `(tactic| walk_at "k00f") => `(tactic| ((refine' Ev.is ?k1 ?k2); (case k1 => walk_at "k00e"); (case k2 => rfl)))
def smallD (d : PyData) (lo hi : Int) : Bool := match d with
  | .int i => decide (lo ≤ i) && decide (i ≤ hi)
  | _ => false
def relSmall (as : List AR) (c : AR) : Prop := ∃ d lo hi, as = [.b d, .f (.int lo), .f (.int hi)] ∧ c = .f (.bool (smallD d lo hi))
section
variable {P : Program} {w : World} {K : PySem.W.Frag} {mg : Str → Option Value} {base : Heap} {f : Addr} {fd : FuncData}
theorem sc_is_small : FnScope ["value", "low", "high"] ["value", "low", "high"] (defScope (stm 8)) := ⟨rfl, rfl, rfl, by decide +kernel, rfl, by decide +kernel, by decide +kernel⟩
/-- the start of a def that raises nothing -/
theorem pr_start {rel : List AR → AR → Prop} {N : List Str} {vs : List V} {H : Hp} {Q : VK} {E : XK} {t : TS} (h : Pr rel vs H Q E)
    (g : ∀ as c (D : Ends), rel as c → okRes c → Ret W0 H D c → Go W0 H t D (startE N as)) : t { nx := fun _ H' => Q .non H', rt := Q } (L2.start N vs) H := by
  obtain ⟨as, c, r, ok, la, k⟩ := h
  refine g as c _ r ok (fun v H' n q => k v H' n.3 q) _ H (sat_start trivial la)
theorem pr_len {rel : List AR → AR → Prop} {n : Nat} (h : ∀ as c, rel as c → as.length = n) {vs : List V} {H : Hp} {Q : VK} {E : XK} (p : Pr rel vs H Q E) : vs.length = n := by
  obtain ⟨as, c, r, ok, la, k⟩ := p
  rw [la.length]
  exact h as c r
theorem ok_is_small (F : FnP K "is_small" 8 f fd) (B : Bt mg) : FnOk P w K mg base CX0 1 f fd ["value", "low", "high"] (Pr relSmall) := by
  refine F.ok sc_is_small (fun vs H Q E h => pr_len (fun as c r => by obtain ⟨d, lo, hi, rfl, _⟩ := r; rfl) h) (fun cdv A outer s H vs Q E hr h => ⟨_, PSs.nox (pss_one (ps_ret (pe_and (k_isinstance B.isinstance rfl (pa_cons (pv 0) (pa_cons (k_ty B.int rfl boot_int') pa_nil))) (pe_and (pe_not (k_isinstance B.isinstance rfl (pa_cons (pv 0) (pa_cons (k_ty B.bool rfl boot_bool') pa_nil)))) (pe_one (pe_chain op_le op_le (pv 1) (pv 0) (pv 2))))))), pr_start h fun as c D r ok k => ?_⟩)
  obtain ⟨d, lo, hi, rfl, rfl⟩ := r
  cases d with
  | int i =>
    refine' st_ret (Ev.is ?h ?e) k
    case h => walk_at "k00e"
    case e => rfl
  | _ => 
    refine' st_ret (Ev.is ?h ?e) k
    case h => walk_at "k00e"
    case e => rfl
/-! is_table -/
def pairD (n : Int) (d : PyData) : Bool := match d with
  | .tuple [a, b] => smallD a 0 n && smallD b 0 9
  | _ => false
def rowD (n : Int) (r0 d : PyData) : Bool := match d with
  | .tuple ps => (decide (1 ≤ (ps.length : Int)) && decide ((ps.length : Int) ≤ 4)) && (isTup r0 && decide ((ps.length : Int) = (dlen r0 : Int))) && ps.all (pairD n)
  | _ => false
def tableD (d : PyData) : Bool := match d with
  | .tuple rs => (decide (1 ≤ (rs.length : Int)) && decide ((rs.length : Int) ≤ 6)) && rs.all (rowD ((rs.length : Int) - 1) (rs.headD .none))
  | _ => false
def relTable (as : List AR) (c : AR) : Prop := ∃ d, as = [.f d] ∧ c = .f (.bool (tableD d))
theorem sc_is_table : FnScope ["rows", "row", "one"] ["rows"] (defScope (stm 9)) := ⟨rfl, rfl, rfl, by decide +kernel, rfl, by decide +kernel, by decide +kernel⟩
theorem ev_small {W : Wd} {H0 : Hp} {ta : TA} {E : List AV} {Ex : XK} {a : AR} {d : PyData} {lo hi : Int} (h : EvA W H0 ta E [a, .f (.int lo), .f (.int hi)]) (e : a.d = some d) : Ev W H0 (tCall (Pr relSmall) [] Ex ta) E (.f (.bool (smallD d lo hi))) :=
  ev_call h (.cons (coe_b e) (.cons coe_rfl (.cons coe_rfl .nil))) ⟨_, _, _, rfl, rfl⟩ trivial
local macro_rules | `(tactic| walk_at "k00r") => `(tactic| ((with_reducible refine' ev_small ?k1 ?k2); (case k1 => walk_at "k00a"); (case k2 => rfl)))
theorem all_false {α : Type} {p : α → Bool} {l : List α} {i : Nat} {a : α} (h : l[i]? = some a) (hp : p a = false) : l.all p = false := by
  rw [List.all_eq_false]
  exact ⟨a, List.mem_of_getElem? h, by rw [hp]; decide⟩
theorem all_of {α : Type} {p : α → Bool} {l : List α} (h : ∀ (i : Nat) a, i < l.length → l[i]? = some a → p a = true) : l.all p = true := by
  rw [List.all_eq_true]
  intro a ha
  obtain ⟨i, hi, e⟩ := List.mem_iff_getElem.mp ha
  exact h i a hi (by rw [List.getElem?_eq_getElem hi, e])
theorem ok_is_table {f1 : Addr} {fd1 : FuncData} (F : FnP K "is_table" 9 f fd) (B : Bt mg) (G_is_small : FnOk P w K mg base CX0 1 f1 fd1 ["value", "low", "high"] (Pr relSmall)) (N_is_small : Kn K mg "is_small" ["value", "low", "high"] f1 fd1) :
    FnOk P w K mg base CX0 2 f fd ["rows"] (Pr relTable) := by
  refine F.ok sc_is_table (fun vs H Q E h => pr_len (fun as c r => by obtain ⟨d, rfl, _⟩ := r; rfl) h) (fun cdv A outer s H vs Q E hr h => ⟨_, PSs.nox (pss_cons (ps_if (PW.pt (pw_or (pt_not (pt_val (k_isinstance B.isinstance rfl (pa_cons (pv 0) (pa_cons (k_ty B.tuple rfl boot_tuple') pa_nil))))) (pw_or1 (pt_not (pt_chain op_le op_le pe_int (k_len B.len rfl (pa_cons (pv 0) pa_nil)) pe_int))))) (pss_one (ps_ret pe_bl)) pss_nil)
      (pss_cons (ps_for PassesOwn.never rfl (pi_tup (pv 0)) (pg_name (i := 1) sc_is_table.nd rfl (Or.inl rfl)) (pss_cons (ps_if (PW.pt (pw_or (pt_not (pt_val (k_isinstance B.isinstance rfl (pa_cons (pv 1) (pa_cons (k_ty B.tuple rfl boot_tuple') pa_nil))))) (pw_or1 (pt_not (pt_chain op_le op_le pe_int (k_len B.len rfl (pa_cons (pv 1) pa_nil)) pe_int))))) (pss_one (ps_ret pe_bl)) pss_nil)
      (pss_cons (ps_if (PW.pt (pw_or (pt_not (pt_val (k_isinstance B.isinstance rfl (pa_cons (pe_ix ix_tup (pv 0) pe_int (fun _ _ => rfl)) (pa_cons (k_ty B.tuple rfl boot_tuple') pa_nil))))) (pw_or1 (pt_cmpR op_ne (k_len B.len rfl (pa_cons (pv 1) pa_nil)) (k_len B.len rfl (pa_cons (pe_ix ix_tup (pv 0) pe_int (fun _ _ => rfl)) pa_nil)) (nomark _))))) (pss_one (ps_ret pe_bl)) pss_nil)
      (pss_one (ps_for PassesOwn.never rfl (pi_tup (pv 1)) (pg_name (i := 2) sc_is_table.nd rfl (Or.inl rfl)) (pss_cons (ps_if (PW.pt (pw_or (pt_not (pt_val (k_isinstance B.isinstance rfl (pa_cons (pv 2) (pa_cons (k_ty B.tuple rfl boot_tuple') pa_nil))))) (pw_or (pt_cmpR op_ne (k_len B.len rfl (pa_cons (pv 2) pa_nil)) pe_int (nomark _)) (pw_or1 (pt_not (pt_val (k_call G_is_small N_is_small hr (by decide) rfl (pa_cons (pe_ix ix_tup (pv 2) pe_int (fun _ _ => rfl)) (pa_cons pe_int (pa_cons (pe_op op_sub (k_len B.len rfl (pa_cons (pv 0) pa_nil)) pe_int) pa_nil)))))))))) (pss_one (ps_ret pe_bl)) pss_nil)
      (pss_one (ps_if (pt_not (pt_val (k_call G_is_small N_is_small hr (by decide) rfl (pa_cons (pe_ix ix_tup (pv 2) pe_int (fun _ _ => rfl)) (pa_cons pe_int (pa_cons pe_int pa_nil)))))) (pss_one (ps_ret pe_bl)) pss_nil))))))))
      (pss_one (ps_ret pe_bl)))), pr_start h fun as c D r ok k => ?_⟩)
  obtain ⟨d, rfl, rfl⟩ := r
  have no_tup : isTup d = false → tableD d = false := fun z => by cases d <;> first | rfl | cases z
  by_cases ht : isTup d = true
  · obtain ⟨rs, rfl⟩ : ∃ rs, d = .tuple rs := by cases d <;> first | exact ⟨_, rfl⟩ | cases ht
    refine' q_guard ?h1 (fun hb => st_ret ev_bl (k.eq ?y1 rfl)) fun hb => ?n1
    case h1 => walk_at "k00t"
    case y1 =>
      simp only [isTup, Bool.not_true, Bool.false_or, Bool.not_eq_true'] at hb
      simp only [tableD, hb, Bool.false_and]
    simp only [isTup, Bool.not_true, Bool.false_or, Bool.not_eq_false'] at hb
    have hlen : 1 ≤ (rs.length : Int) ∧ (rs.length : Int) ≤ 6 := by simpa using hb
    have tab : ∀ (i : Nat) r, rs[i]? = some r → rowD ((rs.length : Int) - 1) (rs.headD .none) r = false → tableD (.tuple rs) = false := fun i r e z => by
      simp only [tableD, all_false e z, Bool.and_false]
    have r0 : rs[0]? = some (rs.headD .none) := by
      cases rs with
      | nil =>
        have := hlen.1
        simp at this
      | cons a t => rfl
    have i0 : atI rs 0 = some (rs.headD .none) := atI_nat r0
    refine' q_for (E1 := [.dat (.tuple rs), .no, .no]) (fun i E' => E' = [.dat (.tuple rs), .no, .no] ∧ ∀ (m : Nat) a, m < i → rs[m]? = some a → rowD ((rs.length : Int) - 1) (rs.headD .none) a = true) (evi_tup (ev_dat rfl)) (fun i E' p => by rw [p.1]; rfl) ⟨rfl, fun m a h => absurd h (Nat.not_lt_zero _)⟩ Wk.rfl (fun H1 n1 i a E' ha p => ?turn) fun E' p => ?done
    case done =>
      obtain ⟨rfl, p⟩ := p
      rw [List.length_map] at p
      have e : tableD (.tuple rs) = true := by simp only [tableD, hb, all_of p, Bool.and_true]
      exact st_ret ev_bl (k.eq (by rw [e]) rfl)
    case turn =>
      obtain ⟨rfl, p⟩ := p
      obtain ⟨r, hr2, rfl⟩ : ∃ r, rs[i]? = some r ∧ a = .f r := by
        rw [List.getElem?_map] at ha
        obtain ⟨r, e1, e2⟩ := Option.map_eq_some_iff.mp ha
        exact ⟨r, e1, e2.symm⟩
      have bad : rowD ((rs.length : Int) - 1) (rs.headD .none) r = false → Ret W0 H1 D (.f (.bool false)) := fun z => (k.on n1 rfl).eq (by rw [tab i r hr2 z]) rfl
      have nt : isTup r = false → rowD ((rs.length : Int) - 1) (rs.headD .none) r = false := fun z => by cases r <;> first | rfl | cases z
      by_cases hrt : isTup r = true
      · obtain ⟨ps, rfl⟩ : ∃ ps, r = .tuple ps := by cases r <;> first | exact ⟨_, rfl⟩ | cases hrt
        refine' q_guard ?h2 (fun hb => st_ret ev_bl (bad ?y2)) fun hb => ?n2
        case h2 => walk_at "k00t"
        case y2 =>
          simp only [isTup, Bool.not_true, Bool.false_or, Bool.not_eq_true'] at hb
          simp only [rowD, hb, Bool.false_and]
        rename_i hb1
        simp only [isTup, Bool.not_true, Bool.false_or, Bool.not_eq_false'] at hb
        by_cases h0t : isTup (rs.headD .none) = true
        · obtain ⟨p0, e0⟩ : ∃ p0, rs.headD .none = .tuple p0 := by
            cases h : rs.headD .none <;> rw [h] at h0t <;> first | exact ⟨_, rfl⟩ | cases h0t
          rw [e0] at i0
          refine' q_guard ?h3 (fun hc => st_ret ev_bl (bad ?y3)) fun hc => ?n3
          case h3 => walk_at "k00t"
          case y3 =>
            simp only [isTup, Bool.not_true, Bool.false_or, Bool.not_eq_true'] at hc
            simp only [rowD, hb, e0, dlen, hc, isTup, Bool.and_false, Bool.false_and]
          simp only [isTup, Bool.not_true, Bool.false_or, Bool.not_eq_false'] at hc
          have good : ps.all (pairD ((rs.length : Int) - 1)) = true → rowD ((rs.length : Int) - 1) (rs.headD .none) (.tuple ps) = true := fun z => by
            simp only [rowD, hb, e0, dlen, hc, isTup, Bool.and_true, Bool.true_and, z]
          have badP : ∀ (i : Nat) d, ps[i]? = some d → pairD ((rs.length : Int) - 1) d = false → rowD ((rs.length : Int) - 1) (rs.headD .none) (.tuple ps) = false := fun i d e z => by
            simp only [rowD, all_false e z, Bool.and_false]
          refine' st_for (E1 := [.dat (.tuple rs), .dat (.tuple ps), .no]) (fun j E' => E' = [.dat (.tuple rs), .dat (.tuple ps), .no] ∧ ∀ (m : Nat) a, m < j → ps[m]? = some a → pairD ((rs.length : Int) - 1) a = true) (evi_tup (ev_dat rfl)) (fun i E' p => by rw [p.1]; rfl) ⟨rfl, fun m a h => absurd h (Nat.not_lt_zero _)⟩ Wk.rfl (fun H2 n2 j a E' hj q => ?turn2) fun E' q σ H S => ?done2
          case done2 =>
            obtain ⟨rfl, q⟩ := q
            rw [List.length_map] at q
            refine ⟨_, ⟨rfl, fun m a hm he => ?_⟩, S.wk (.same (.no (.same .nil)))⟩
            by_cases hmi : m < i
            · exact p m a hmi he
            · have : m = i := by omega
              subst this
              rw [hr2] at he
              cases he
              exact good (all_of q)
          case turn2 =>
            obtain ⟨rfl, q⟩ := q
            obtain ⟨d, hd, rfl⟩ : ∃ d, ps[j]? = some d ∧ a = .f d := by
              rw [List.getElem?_map] at hj
              obtain ⟨r, e1, e2⟩ := Option.map_eq_some_iff.mp hj
              exact ⟨r, e1, e2.symm⟩
            have bad2 : pairD ((rs.length : Int) - 1) d = false → Ret W0 H2 D (.f (.bool false)) := fun z => (bad (badP j d hd z)).on n2 rfl
            have np : ∀ ds, d = .tuple ds → ds.length ≠ 2 → pairD ((rs.length : Int) - 1) d = false := fun ds e z => by
              subst e
              rcases ds with _ | ⟨x, _ | ⟨y, _ | ⟨u, t⟩⟩⟩ <;> first | rfl | exact absurd rfl z
            by_cases hdt : isTup d = true
            · obtain ⟨xs, rfl⟩ : ∃ xs, d = .tuple xs := by cases d <;> first | exact ⟨_, rfl⟩ | cases hdt
              by_cases h2 : xs.length = 2
              · obtain ⟨x, y, rfl⟩ : ∃ x y, xs = [x, y] := by
                  rcases xs with _ | ⟨x, _ | ⟨y, _ | ⟨u, t⟩⟩⟩
                  · cases h2
                  · cases h2
                  · exact ⟨x, y, rfl⟩
                  · cases h2
                refine' q_guard ?h4 (fun he => st_ret ev_bl (bad2 ?y4)) fun he => ?n4
                case h4 => walk_at "k00t"
                case y4 =>
                  have e1 : smallD x 0 ((rs.length : Int) - 1) = false := by simpa [isTup] using he
                  simp only [pairD, e1, Bool.false_and]
                have e1 : smallD x 0 ((rs.length : Int) - 1) = true := by simpa [isTup] using he
                refine' st_if ?h5 (fun he => st_ret ev_bl (bad2 ?y5)) fun he => st_next ?n5
                case h5 => walk_at "k00t"
                case y5 =>
                  have e2 : smallD y 0 9 = false := by simpa using he
                  simp only [pairD, e2, Bool.and_false]
                have e2 : smallD y 0 9 = true := by simpa using he
                intro σ H S
                refine ⟨_, ⟨rfl, fun m a hm hq => ?_⟩, S.wk (.same (.same (.no .nil)))⟩
                by_cases hmi : m < j
                · exact q m a hmi hq
                · have : m = j := by omega
                  subst this
                  rw [hd] at hq
                  cases hq
                  simp only [pairD, e1, e2, Bool.and_true]
              · refine' q_guardT (b := true) (EvT.is ?h6 ?e6) rfl (st_ret ev_bl (bad2 (np xs rfl h2)))
                case h6 => exact et_or (et_not (et_B (ev_isTup (ev_dat rfl) rfl))) fun _ => et_or1 (et_test (ev_neI (ev_lenB (ev_dat rfl) (.inr rfl)) ev_int)) (by simp; omega)
                case e6 => rw [Bool.or_true]
            · refine' q_guardT (b := true) (EvT.is ?h7 ?e7) rfl (st_ret ev_bl (bad2 ?y7))
              case h7 => exact et_or1 (et_not (et_B (ev_isTup (ev_dat rfl) rfl))) (by rw [Bool.eq_false_iff.mpr hdt]; rfl)
              case e7 => rfl
              case y7 => cases d <;> first | rfl | exact absurd rfl hdt
        · refine' q_guardT (b := true) (EvT.is ?h8 ?e8) rfl (st_ret ev_bl (bad ?y8))
          case h8 => exact et_or1 (et_not (et_B (ev_isTup (ev_ixT (ev_dat rfl) ev_int i0) rfl))) (by rw [Bool.eq_false_iff.mpr h0t]; rfl)
          case e8 => rfl
          case y8 => simp only [rowD, Bool.eq_false_iff.mpr h0t, Bool.false_and, Bool.and_false]
      · refine' q_guardT (b := true) (EvT.is ?h9 ?e9) rfl (st_ret ev_bl (bad (nt (Bool.eq_false_iff.mpr hrt))))
        case h9 => exact et_or1 (et_not (et_B (ev_isTup (ev_dat rfl) rfl))) (by rw [Bool.eq_false_iff.mpr hrt]; rfl)
        case e9 => rfl
  · refine' q_guardT (b := true) (EvT.is ?h10 ?e10) rfl (st_ret ev_bl (k.eq (by rw [no_tup (Bool.eq_false_iff.mpr ht)]) rfl))
    case h10 => exact et_or1 (et_not (et_B (ev_isTup (ev_dat rfl) rfl))) (by rw [Bool.eq_false_iff.mpr ht]; rfl)
    case e10 => rfl
theorem ev_table {W : Wd} {H0 : Hp} {ta : TA} {E : List AV} {Ex : XK} {d : PyData} (h : EvA W H0 ta E [.f d]) : Ev W H0 (tCall (Pr relTable) [] Ex ta) E (.f (.bool (tableD d))) :=
  ev_call h (.cons coe_rfl .nil) ⟨_, rfl, rfl⟩ trivial
def bankD (d : PyData) : Bool := match d with
  | .tuple ds => (decide (2 ≤ (ds.length : Int)) && decide ((ds.length : Int) ≤ 3)) && ds.all fun x => smallD x 0 5
  | _ => false
def relBank (as : List AR) (c : AR) : Prop := ∃ d, as = [.f d] ∧ c = .f (.bool (bankD d))
theorem ev_bank {W : Wd} {H0 : Hp} {ta : TA} {E : List AV} {Ex : XK} {d : PyData} (h : EvA W H0 ta E [.f d]) : Ev W H0 (tCall (Pr relBank) [] Ex ta) E (.f (.bool (bankD d))) :=
  ev_call h (.cons coe_rfl .nil) ⟨_, rfl, rfl⟩ trivial
end
end K00

/-! Part B. -/
set_option Elab.async false
set_option linter.all false
set_option autoImplicit false
set_option maxRecDepth 100000
set_option maxHeartbeats 4000000
/-! What is an object: the rest. -/
namespace K00
open PySem PySem.Spec PyProof.Rows L2
local macro_rules | `(tactic| walk_at "k00a") => `(tactic| first
  | (with_reducible exact eva_nil)
  | ((with_reducible refine' eva_cons ?k1 ?k2); (case k1 => walk_at "k00e"); (case k2 => walk_at "k00a"))
  | ((with_reducible refine' eva_star ?k1 ?k2); (case k1 => walk_at "k00e"); (case k2 => walk_at "k00a")))
local macro_rules | `(tactic| walk_at "k00o") => `(tactic| first
  | (with_reducible exact evo_no)
  | ((with_reducible refine' evo_some ?k1); (case k1 => walk_at "k00e")))
local macro_rules | `(tactic| walk_at "k00e") => `(tactic| first
  | (with_reducible exact ev_int)
  | (with_reducible exact ev_str)
  | (with_reducible exact ev_bl)
  | (with_reducible exact ev_non)
  | ((with_reducible refine' ev_dat ?k1); (case k1 => rfl))
  | ((with_reducible refine' ev_own ?k1); (case k1 => rfl))
  | ((with_reducible refine' ev_argF ?k1 ?k2); (case k1 => rfl); (case k2 => rfl))
  | ((with_reducible refine' ev_arg ?k1); (case k1 => rfl))
  | ((with_reducible refine' ev_genF ?k1 ?k2); (case k1 => rfl); (case k2 => rfl))
  | ((with_reducible refine' ev_gen ?k1); (case k1 => rfl))
  | ((with_reducible refine' ev_raw ?k1); (case k1 => rfl))
  | ((with_reducible refine' ev_ixT ?k1 ?k2 ?k3); (case k1 => walk_at "k00e"); (case k2 => walk_at "k00e"); (case k3 => walk_at "k00i"))
  | ((with_reducible refine' ev_ixL ?k1 ?k2 ?k4 ?k3); (case k1 => walk_at "k00e"); (case k2 => walk_at "k00e"); (case k4 => first | exact Or.inl rfl | exact Or.inr rfl); (case k3 => walk_at "k00i"))
  | ((with_reducible refine' ev_isInt ?k1 ?k2); (case k1 => walk_at "k00e"); (case k2 => rfl))
  | ((with_reducible refine' ev_isBool ?k1 ?k2); (case k1 => walk_at "k00e"); (case k2 => rfl))
  | ((with_reducible refine' ev_isStr ?k1 ?k2); (case k1 => walk_at "k00e"); (case k2 => rfl))
  | ((with_reducible refine' ev_isTup ?k1 ?k2); (case k1 => walk_at "k00e"); (case k2 => rfl))
  | ((with_reducible refine' ev_isLst ?k1 ?k2); (case k1 => walk_at "k00e"); (case k2 => rfl))
  | ((with_reducible refine' ev_isSeq ?k1 ?k2); (case k1 => walk_at "k00e"); (case k2 => rfl))
  | ((with_reducible refine' ev_lenB ?k1 ?k2); (case k1 => walk_at "k00e"); (case k2 => first | exact Or.inl rfl | exact Or.inr rfl))
  | ((with_reducible refine' ev_int2 ?k1 ?k2); (case k1 => walk_at "k00e"); (case k2 => walk_at "k00e"))
  | ((with_reducible refine' ev_cmp2 ?k1 ?k2); (case k1 => walk_at "k00e"); (case k2 => walk_at "k00e"))
  | ((with_reducible refine' ev_intC ?k1 ?k2 ?k3); (case k1 => walk_at "k00e"); (case k2 => walk_at "k00e"); (case k3 => walk_at "k00c"))
  | ((with_reducible refine' ev_eqS ?k1 ?k2); (case k1 => walk_at "k00e"); (case k2 => walk_at "k00e"))
  | ((with_reducible refine' ev_eqI ?k1 ?k2); (case k1 => walk_at "k00e"); (case k2 => walk_at "k00e"))
  | ((with_reducible refine' ev_neI ?k1 ?k2); (case k1 => walk_at "k00e"); (case k2 => walk_at "k00e"))
  | ((with_reducible refine' ev_eqB ?k1 ?k2); (case k1 => walk_at "k00e"); (case k2 => walk_at "k00e"))
  | ((with_reducible refine' ev_neB ?k1 ?k2); (case k1 => walk_at "k00e"); (case k2 => walk_at "k00e"))
  | ((with_reducible refine' ev_eqD ?k1 ?k2 ?k3 ?k4 ?k5 ?k6); (case k1 => walk_at "k00e"); (case k2 => walk_at "k00e"); (case k3 => rfl); (case k4 => rfl); (case k5 => walk_at "k00s"); (case k6 => walk_at "k00s"))
  | ((with_reducible refine' ev_neD ?k1 ?k2 ?k3 ?k4 ?k5 ?k6); (case k1 => walk_at "k00e"); (case k2 => walk_at "k00e"); (case k3 => rfl); (case k4 => rfl); (case k5 => walk_at "k00s"); (case k6 => walk_at "k00s"))
  | ((with_reducible refine' ev_inD ?k1 ?k2 ?k3 ?k4 ?k5 ?k6); (case k1 => walk_at "k00e"); (case k2 => walk_at "k00e"); (case k3 => rfl); (case k4 => rfl); (case k5 => walk_at "k00s"); (case k6 => walk_at "k00s"))
  | ((with_reducible refine' ev_niD ?k1 ?k2 ?k3 ?k4 ?k5 ?k6); (case k1 => walk_at "k00e"); (case k2 => walk_at "k00e"); (case k3 => rfl); (case k4 => rfl); (case k5 => walk_at "k00s"); (case k6 => walk_at "k00s"))
  | ((with_reducible refine' ev_isNone ?k1 ?k2); (case k1 => walk_at "k00e"); (case k2 => rfl))
  | ((with_reducible refine' ev_notNone ?k1 ?k2); (case k1 => walk_at "k00e"); (case k2 => rfl))
  | ((with_reducible refine' ev_neg ?k1); (case k1 => walk_at "k00e"))
  | ((with_reducible refine' ev_tup ?k1 ?k2 ?k3); (case k1 => walk_at "k00a"); (case k2 => first | rfl | exact allF_app _ _); (case k3 => walk_at "k00l"))
  | ((with_reducible refine' ev_lst ?k1 ?k2 ?k3); (case k1 => walk_at "k00a"); (case k2 => first | rfl | exact allF_app _ _); (case k3 => walk_at "k00l"))
  | ((with_reducible refine' ev_slT ?k1 ?k2 ?k3); (case k1 => walk_at "k00e"); (case k2 => walk_at "k00o"); (case k3 => walk_at "k00o"))
  | ((with_reducible refine' ev_catT ?k1 ?k2 ?k3); (case k1 => walk_at "k00e"); (case k2 => walk_at "k00e"); (case k3 => walk_at "k00l"))
  | ((with_reducible refine' ev_cat ?k1 ?k2 ?k4 ?k5 ?k3); (case k1 => walk_at "k00e"); (case k2 => walk_at "k00e"); (case k4 => first | exact Or.inl rfl | exact Or.inr rfl); (case k5 => first | exact Or.inl rfl | exact Or.inr rfl); (case k3 => walk_at "k00l"))
  | ((with_reducible refine' ev_tupOf ?k1 ?k2); (case k1 => walk_at "k00e"); (case k2 => first | exact Or.inl rfl | exact Or.inr rfl))
  | ((with_reducible refine' ev_lstOf ?k1); (case k1 => walk_at "k00e"))
  | ((with_reducible refine' ev_intI ?k1); (case k1 => walk_at "k00e"))
  | ((with_reducible refine' ev_intB ?k1); (case k1 => walk_at "k00e"))
  | ((with_reducible refine' ev_and0 ?k1 ?k2); (case k1 => walk_at "k00e"); (case k2 => first | rfl | assumption))
  | ((with_reducible refine' ev_or1 ?k1 ?k2); (case k1 => walk_at "k00e"); (case k2 => first | rfl | assumption))
  | ((with_reducible refine' ev_ifT ?k1 ?k2 ?k3); (case k1 => walk_at "k00t"); (case k2 => first | rfl | assumption); (case k3 => walk_at "k00e"))
  | ((with_reducible refine' ev_ifF ?k1 ?k2 ?k3); (case k1 => walk_at "k00t"); (case k2 => first | rfl | assumption); (case k3 => walk_at "k00e"))
  | ((with_reducible refine' ev_andV ?k1 ?k2); (case k1 => walk_at "k00e"); (case k2 => intro hb; walk_at "k00e"))
  | ((with_reducible refine' ev_orV ?k1 ?k2); (case k1 => walk_at "k00e"); (case k2 => intro hb; walk_at "k00e"))
  | ((with_reducible refine' ev_notV ?k1); (case k1 => walk_at "k00e"))
  | ((with_reducible refine' ev_chain ?k1 ?k2 ?k3); (case k1 => walk_at "k00e"); (case k2 => walk_at "k00e"); (case k3 => walk_at "k00e"))
  | ((with_reducible refine' ev_inT ?k1 ?k2 ?k3 ?k4); (case k1 => walk_at "k00e"); (case k2 => walk_at "k00e"); (case k3 => walk_at "k00w"); (case k4 => rfl))
  | ((with_reducible refine' ev_inN ?k1 ?k2 ?k3 ?k4); (case k1 => walk_at "k00e"); (case k2 => walk_at "k00e"); (case k3 => walk_at "k00w"); (case k4 => rfl))
  | ((with_reducible refine' ev_inI ?k1 ?k2 ?k3); (case k1 => walk_at "k00e"); (case k2 => walk_at "k00e"); (case k3 => exact Or.inr (Or.inr rfl)))
  | ((with_reducible refine' ev_lcW ?k1 ?k2 ?k3 ?k4); (case k1 => walk_at "k00n"); (case k2 => decide); (case k3 => walk_at "k00x"); (case k4 => first | decide | exact of_decide_eq_true rfl))
  | walk_at "k00r"
  | (with_reducible exact ev_c))
local macro_rules | `(tactic| walk_at "k00k") => `(tactic| first
  | exact Coes.nil
  | ((refine' Coes.cons ?k1 ?k2); (case k1 => first | exact coe_rfl | exact coe_b rfl); (case k2 => walk_at "k00k")))
local macro_rules | `(tactic| walk_at "k00i") => `(tactic| first | rfl | assumption)
local macro_rules | `(tactic| walk_at "k00c") => `(tactic| first | trivial | decide | omega | assumption)
local macro_rules | `(tactic| walk_at "k00l") => `(tactic| first | decide | (simp; done) | (simp; omega) | omega | assumption | (simp [rangeR_len2, fzs]; done) | (simp [rangeR_len2, fzs]; omega))
local macro_rules | `(tactic| walk_at "k00s") => `(tactic| first | rfl | decide +kernel | assumption | exact Sh.shaped (by assumption))
local macro_rules | `(tactic| walk_at "k00t") => `(tactic| first
  | ((with_reducible refine' et_test ?k1); (case k1 => walk_at "k00e"))
  | ((with_reducible refine' et_B ?k1); (case k1 => walk_at "k00e"))
  | ((with_reducible refine' et_not ?k1); (case k1 => walk_at "k00t"))
  | ((with_reducible refine' et_and0 ?k1 ?k2); (case k1 => walk_at "k00t"); (case k2 => first | rfl | assumption))
  | ((with_reducible refine' et_or1 ?k1 ?k2); (case k1 => walk_at "k00t"); (case k2 => first | rfl | assumption))
  | ((with_reducible refine' et_and ?k1 ?k2); (case k1 => walk_at "k00t"); (case k2 => intro hb; walk_at "k00t"))
  | ((with_reducible refine' et_or ?k1 ?k2); (case k1 => walk_at "k00t"); (case k2 => intro hb; walk_at "k00t"))
  | (with_reducible exact et_yes))

local macro_rules | `(tactic| walk_at "k00n") => `(tactic| first
  | ((with_reducible refine' evi_rng1 ?k1 ?k2); (case k1 => walk_at "k00e"); (case k2 => walk_at "k00y"))
  | ((with_reducible refine' evi_rng2 ?k1 ?k2 ?k3); (case k1 => walk_at "k00e"); (case k2 => walk_at "k00e"); (case k3 => walk_at "k00y"))
  | ((with_reducible refine' evi_tup ?k1); (case k1 => walk_at "k00e"))
  | ((with_reducible refine' evi_lst ?k1 ?k2); (case k1 => walk_at "k00e"); (case k2 => first | exact Or.inl rfl | exact Or.inr rfl)))
local macro_rules | `(tactic| walk_at "k00y") => `(tactic| first | decide | omega | (simp; omega) | assumption)
local macro_rules | `(tactic| walk_at "k00x") => `(tactic| first | decide | assumption | (rw [rangeR_iv, List.length_map]; unfold iv; rw [List.length_map, List.length_range]; omega))
local macro_rules | `(tactic| walk_at "k00w") => `(tactic| first | exact Or.inr (Or.inr rfl) | exact Or.inl rfl | exact Or.inr (Or.inl rfl))
local macro_rules | `(tactic| walk_at "k00b") => `(tactic| first | decide +kernel | rfl | assumption | (simp; done))
local macro_rules | `(tactic| walk_at "k00g") => `(tactic| first
  | ((with_reducible refine' q_asgF ?k1 ?k2); (case k1 => walk_at "k00e"))
  | ((with_reducible refine' q_guardF ?k1 ?k2 ?k3); (case k1 => walk_at "k00t"); (case k2 => walk_at "k00b"))
  | ((with_reducible refine' q_guardT ?k1 ?k2 ?k3); (case k1 => walk_at "k00t"); (case k2 => walk_at "k00b"))
  | ((with_reducible refine' q_two ?k1 ?k2); (case k1 => walk_at "k00e"))
  | ((with_reducible refine' q_par ?k1 ?k2); (case k1 => walk_at "k00a"))
  | ((with_reducible refine' q_par3 ?k1 ?k2); (case k1 => walk_at "k00a")))
local macro_rules | `(tactic| walk_at "k00f") => `(tactic| ((refine' Ev.is ?k1 ?k2); (case k1 => walk_at "k00e"); (case k2 => rfl)))
local macro_rules | `(tactic| walk_at "k00r") => `(tactic| first
  | ((with_reducible refine' ev_small ?k1 ?k2); (case k1 => walk_at "k00a"); (case k2 => rfl))
  | ((with_reducible refine' ev_bank ?k1); (case k1 => walk_at "k00a"))
  | ((with_reducible refine' ev_table ?k1); (case k1 => walk_at "k00a")))
/-- the numbers of the module -/
structure Cn (mg : Str → Option Value) : Prop where
  MOST_VALUES : ∃ u, RelV (.int 5) u ∧ mg "MOST_VALUES" = some u
  MOST_ROOM : ∃ u, RelV (.int 3) u ∧ mg "MOST_ROOM" = some u
def isArg (a : AR) (d : PyData) : Prop := a = .f d ∨ ∃ ds, a = .b (.list ds) ∧ d = .list ds
def kindD (d : PyData) : Bool := match d with
  | .tuple (.str w :: y :: r) =>
    if List.contains (["counter", "register", "set", "agree"] : List Str) w then decide (((PyData.str w :: y :: r).length : Int) = 2) && smallD y 2 5
    else if List.contains (["stack", "queue"] : List Str) w then decide (((PyData.str w :: y :: r).length : Int) = 3) && (smallD y 1 3 && smallD (r.headD .none) 1 3)
    else if decide (w = "bank") then decide (((PyData.str w :: y :: r).length : Int) = 2) && bankD y
    else decide (w = "table") && (decide (((PyData.str w :: y :: r).length : Int) = 2) && tableD y)
  | _ => false
def relKind (as : List AR) (c : AR) : Prop := ∃ a d, as = [a] ∧ isArg a d ∧ c = .f (.bool (kindD d))
section
variable {P : Program} {w : World} {K : PySem.W.Frag} {mg : Str → Option Value} {base : Heap} {f : Addr} {fd : FuncData}
theorem sc_is_bank : FnScope ["first", "one"] ["first"] (defScope (stm 10)) := ⟨rfl, rfl, rfl, by decide +kernel, rfl, by decide +kernel, by decide +kernel⟩
theorem sc_is_kind : FnScope ["value", "name"] ["value"] (defScope (stm 11)) := ⟨rfl, rfl, rfl, by decide +kernel, rfl, by decide +kernel, by decide +kernel⟩
theorem ok_is_bank {f1 : Addr} {fd1 : FuncData} (F : FnP K "is_bank" 10 f fd) (B : Bt mg) (G_is_small : FnOk P w K mg base CX0 1 f1 fd1 ["value", "low", "high"] (Pr relSmall)) (N_is_small : Kn K mg "is_small" ["value", "low", "high"] f1 fd1) :
    FnOk P w K mg base CX0 2 f fd ["first"] (Pr relBank) := by
  refine F.ok sc_is_bank (fun vs H Q E h => pr_len (fun as c r => by obtain ⟨d, rfl, _⟩ := r; rfl) h) (fun cdv A outer s H vs Q E hr h => ⟨_, PSs.nox (pss_one (ps_ret (pe_and (k_isinstance B.isinstance rfl (pa_cons (pv 0) (pa_cons (k_ty B.tuple rfl boot_tuple') pa_nil))) (pe_and (pe_chain op_le op_le pe_int (k_len B.len rfl (pa_cons (pv 0) pa_nil)) pe_int) (pe_one (k_all rfl B.all rfl (pa_cons (pe_lc (own := [("one", 1)]) (g := gName 1) rfl sc_is_bank.nd (pi_tup (pv 0)) (blkOk_by (own := [("one", 1)]) (N := ["first", "one"]) (sc := defScope (stm 10)) (by decide +kernel)) (fun _ _ _ _ _ => pg_name (i := 1) sc_is_bank.nd rfl (Or.inl rfl)) (fun _ _ _ _ _ => pts_nil) (fun _ _ _ _ _ => (k_call G_is_small N_is_small hr (by decide) rfl (pa_cons (pv 1) (pa_cons pe_int (pa_cons pe_int pa_nil)))))) pa_nil))))))), pr_start h fun as c D r ok k => ?_⟩)
  obtain ⟨d, rfl, rfl⟩ := r
  cases d with
  | tuple ds =>
    refine' st_ret (Ev.is ?h ?e) k
    case h =>
      exact ev_andV (ev_isTup (ev_dat rfl) rfl) fun _ => ev_andV (ev_chain ev_int (ev_lenB (ev_dat rfl) (.inr rfl)) ev_int) fun hl => ev_all (bs := ds.map fun x => smallD x 0 5) (ev_lc1 (fun d => .bool (smallD d 0 5)) (evi_tup (ev_dat rfl)) (by decide) (by simp at hl; omega) (fun d hd => by walk_at "k00e")) (by rw [List.map_map]; rfl)
    case e =>
      simp only [isTup, Bool.true_and, bankD, List.all_map]
      rfl
  | _ =>
    refine' st_ret (Ev.is ?h ?e) k
    case h => walk_at "k00e"
    case e => rfl
theorem ok_is_kind {f1 f2 f3 : Addr} {fd1 fd2 fd3 : FuncData} (F : FnP K "is_kind" 11 f fd) (B : Bt mg) (M : Cn mg) (G_is_small : FnOk P w K mg base CX0 1 f1 fd1 ["value", "low", "high"] (Pr relSmall)) (N_is_small : Kn K mg "is_small" ["value", "low", "high"] f1 fd1)
    (G_is_bank : FnOk P w K mg base CX0 2 f2 fd2 ["first"] (Pr relBank)) (N_is_bank : Kn K mg "is_bank" ["first"] f2 fd2) (G_is_table : FnOk P w K mg base CX0 2 f3 fd3 ["rows"] (Pr relTable)) (N_is_table : Kn K mg "is_table" ["rows"] f3 fd3) :
    FnOk P w K mg base CX0 3 f fd ["value"] (Pr relKind) := by
  obtain ⟨u5, m_MOST_VALUES⟩ := M.MOST_VALUES
  obtain ⟨u3, m_MOST_ROOM⟩ := M.MOST_ROOM
  refine F.ok sc_is_kind (fun vs H Q E h => pr_len (fun as c r => by obtain ⟨a, d, rfl, _⟩ := r; rfl) h) (fun cdv A outer s H vs Q E hr h => ⟨_, PSs.nox (pss_cons (ps_if (PW.pt (pw_or (pt_not (pt_val (k_isinstance B.isinstance rfl (pa_cons (pv 0) (pa_cons (k_ty B.tuple rfl boot_tuple') pa_nil))))) (pw_or (pt_cmpR op_lt (k_len B.len rfl (pa_cons (pv 0) pa_nil)) pe_int (nomark _)) (pw_or1 (pt_not (pt_val (k_isinstance B.isinstance rfl (pa_cons (pe_ix ix_tup (pv 0) pe_int (fun _ _ => rfl)) (pa_cons (k_ty B.str rfl boot_str') pa_nil))))))))) (pss_one (ps_ret pe_bl)) pss_nil)
      (pss_cons (ps_set (i := 1) sc_is_kind.nd rfl (Or.inl rfl) (pe_ix ix_tup (pv 0) pe_int (fun _ _ => rfl)))
      (pss_cons (ps_if (pt_cmpR op_in_seq (pv 1) (pe_tup (pa_cons pe_str (pa_cons pe_str (pa_cons pe_str (pa_cons pe_str pa_nil))))) (by rfl)) (pss_one (ps_ret (pe_and (pe_cmpR op_eq (k_len B.len rfl (pa_cons (pv 0) pa_nil)) pe_int (nomark _)) (pe_one (k_call G_is_small N_is_small hr (by decide) rfl (pa_cons (pe_ix ix_tup (pv 0) pe_int (fun _ _ => rfl)) (pa_cons pe_int (pa_cons (pe_glob rfl m_MOST_VALUES.2 m_MOST_VALUES.1) pa_nil)))))))) pss_nil)
      (pss_cons (ps_if (pt_cmpR op_in_seq (pv 1) (pe_tup (pa_cons pe_str (pa_cons pe_str pa_nil))) (by rfl)) (pss_one (ps_ret (pe_and (pe_cmpR op_eq (k_len B.len rfl (pa_cons (pv 0) pa_nil)) pe_int (nomark _)) (pe_and (k_call G_is_small N_is_small hr (by decide) rfl (pa_cons (pe_ix ix_tup (pv 0) pe_int (fun _ _ => rfl)) (pa_cons pe_int (pa_cons (pe_glob rfl m_MOST_ROOM.2 m_MOST_ROOM.1) pa_nil)))) (pe_one (k_call G_is_small N_is_small hr (by decide) rfl (pa_cons (pe_ix ix_tup (pv 0) pe_int (fun _ _ => rfl)) (pa_cons pe_int (pa_cons (pe_glob rfl m_MOST_ROOM.2 m_MOST_ROOM.1) pa_nil))))))))) pss_nil)
      (pss_cons (ps_if (pt_cmpR op_eq (pv 1) pe_str (nomark _)) (pss_one (ps_ret (pe_and (pe_cmpR op_eq (k_len B.len rfl (pa_cons (pv 0) pa_nil)) pe_int (nomark _)) (pe_one (k_call G_is_bank N_is_bank hr (by decide) rfl (pa_cons (pe_ix ix_tup (pv 0) pe_int (fun _ _ => rfl)) pa_nil)))))) pss_nil)
      (pss_one (ps_ret (pe_and (pe_cmpR op_eq (pv 1) pe_str (nomark _)) (pe_and (pe_cmpR op_eq (k_len B.len rfl (pa_cons (pv 0) pa_nil)) pe_int (nomark _)) (pe_one (k_call G_is_table N_is_table hr (by decide) rfl (pa_cons (pe_ix ix_tup (pv 0) pe_int (fun _ _ => rfl)) pa_nil)))))))))))), pr_start h fun as c D r ok k => ?_⟩)
  obtain ⟨a, d, rfl, ha, rfl⟩ := r
  rcases ha with rfl | ⟨ds, rfl, rfl⟩
  · cases d with
    | tuple ds =>
      rcases ds with _ | ⟨x, _ | ⟨y, r⟩⟩
      · refine' q_guardT (b := true) (EvT.is ?h ?e) rfl (st_ret ev_bl (k.eq rfl rfl))
        case h => exact et_or (et_not (et_B (ev_isTup (ev_dat rfl) rfl))) fun _ => et_or (y := true) (et_test (ev_cmp2 (ev_lenB (ev_dat rfl) (.inr rfl)) ev_int)) fun z => by cases z
        case e => rfl
      · refine' q_guardT (b := true) (EvT.is ?h ?e) rfl (st_ret ev_bl (k.eq ?z rfl))
        case h => exact et_or (et_not (et_B (ev_isTup (ev_dat rfl) rfl))) fun _ => et_or (y := true) (et_test (ev_cmp2 (ev_lenB (ev_dat rfl) (.inr rfl)) ev_int)) fun z => by cases z
        case e => rfl
        case z => cases x <;> rfl
      · have len2 : decide (((x :: y :: r).length : Int) < 2) = false := by
          rw [decide_eq_false_iff_not]
          simp
          omega
        have i0 : atI (x :: y :: r) 0 = some x := atI_nat rfl
        have i1 : atI (x :: y :: r) 1 = some y := atI_nat rfl
        cases x with
        | str nm =>
          refine' q_guardF (EvT.is ?h ?e) rfl ?n
          case h => exact et_or (et_not (et_B (ev_isTup (ev_dat rfl) rfl))) fun _ => et_or (et_test (ev_cmp2 (ev_lenB (ev_dat rfl) (.inr rfl)) ev_int)) fun _ => et_not (et_B (ev_isStr (ev_ixT (ev_dat rfl) ev_int i0) rfl))
          case e =>
            rw [len2]
            rfl
          refine' q_asgF (ev_ixT (ev_dat rfl) ev_int i0) ?n2
          refine' q_guard (et_test (ev_inS (ws := ["counter", "register", "set", "agree"]) (ev_dat rfl) (ev_tup (by walk_at "k00a") rfl (by decide)) (.inr (.inr rfl)))) (fun hb => st_ret ?h3 (k.eq ?e3 rfl)) fun hb => ?n3
          case h3 => exact ev_andV (ev_eqI (ev_lenB (ev_dat rfl) (.inr rfl)) ev_int) fun _ => ev_small (by walk_at "k00a") rfl
          case e3 =>
            have hb : List.contains (["counter", "register", "set", "agree"] : List Str) nm = true := hb
            show AR.f (.bool (if List.contains (["counter", "register", "set", "agree"] : List Str) nm = true then _ else _)) = _
            rw [if_pos hb]
          have hb : List.contains (["counter", "register", "set", "agree"] : List Str) nm = false := hb
          refine' q_guard (et_test (ev_inS (ws := ["stack", "queue"]) (ev_dat rfl) (ev_tup (by walk_at "k00a") rfl (by decide)) (.inr (.inr rfl)))) (fun hc => st_ret ?h4 (k.eq ?e4 rfl)) fun hc => ?n4
          case h4 =>
            refine ev_andV (y := smallD y 1 3 && smallD (r.headD .none) 1 3) (ev_eqI (ev_lenB (ev_dat rfl) (.inr rfl)) ev_int) fun hl => ?_
            have hl := of_decide_eq_true hl
            obtain ⟨z, rfl⟩ : ∃ z, r = [z] := by
              rcases r with _ | ⟨z, _ | ⟨u, r⟩⟩
              · simp at hl
              · exact ⟨z, rfl⟩
              · simp at hl
                omega
            exact ev_andV (ev_small (by walk_at "k00a") rfl) fun _ => ev_small (lo := 1) (hi := 3) (d := ([z] : List PyData).headD .none) (by walk_at "k00a") rfl
          case e4 =>
            have hc : List.contains (["stack", "queue"] : List Str) nm = true := hc
            show AR.f (.bool (if List.contains (["counter", "register", "set", "agree"] : List Str) nm = true then _ else if List.contains (["stack", "queue"] : List Str) nm = true then _ else _)) = _
            rw [if_neg (by rw [hb]; decide), if_pos hc]
          have hc : List.contains (["stack", "queue"] : List Str) nm = false := hc
          refine' q_guard (et_test (ev_eqS (ev_dat rfl) ev_str)) (fun hd => st_ret ?h5 (k.eq ?e5 rfl)) fun hd => st_ret ?h6 (k.eq ?e6 rfl)
          case h5 => exact ev_andV (ev_eqI (ev_lenB (ev_dat rfl) (.inr rfl)) ev_int) fun _ => ev_bank (by walk_at "k00a")
          case e5 =>
            show AR.f (.bool (if List.contains (["counter", "register", "set", "agree"] : List Str) nm = true then _ else if List.contains (["stack", "queue"] : List Str) nm = true then _ else if decide (nm = "bank") = true then _ else _)) = _
            rw [if_neg (by rw [hb]; decide), if_neg (by rw [hc]; decide), if_pos hd]
          case h6 => exact ev_andV (ev_eqS (ev_dat rfl) ev_str) fun _ => ev_andV (ev_eqI (ev_lenB (ev_dat rfl) (.inr rfl)) ev_int) fun _ => ev_table (by walk_at "k00a")
          case e6 =>
            show AR.f (.bool (if List.contains (["counter", "register", "set", "agree"] : List Str) nm = true then _ else if List.contains (["stack", "queue"] : List Str) nm = true then _ else if decide (nm = "bank") = true then _ else _)) = _
            rw [if_neg (by rw [hb]; decide), if_neg (by rw [hc]; decide), if_neg (by rw [hd]; decide)]
        | _ =>
          refine' q_guardT (b := true) (EvT.is ?h ?e) rfl (st_ret ev_bl (k.eq rfl rfl))
          case h => exact et_or (et_not (et_B (ev_isTup (ev_dat rfl) rfl))) fun _ => et_or (et_test (ev_cmp2 (ev_lenB (ev_dat rfl) (.inr rfl)) ev_int)) fun _ => et_not (et_B (ev_isStr (ev_ixT (ev_dat rfl) ev_int i0) rfl))
          case e =>
            rw [len2]
            rfl
    | _ =>
      refine' q_guardT (b := true) ?h rfl (st_ret ev_bl (k.eq rfl rfl))
      case h => exact et_or1 (et_not (et_B (ev_isTup (ev_dat rfl) rfl))) rfl
  · refine' q_guardT (b := true) ?h rfl (st_ret ev_bl (k.eq rfl rfl))
    case h => exact et_or1 (et_not (et_B (ev_isTup (ev_arg rfl) rfl))) rfl
end
end K00

/-! Part C. -/
set_option Elab.async false
set_option linter.all false
set_option autoImplicit false
set_option maxRecDepth 100000
set_option maxHeartbeats 4000000
/-! First states, calls. -/
namespace K00
open PySem PySem.Spec PyProof.Rows L2
local macro_rules | `(tactic| walk_at "k00a") => `(tactic| first
  | (with_reducible exact eva_nil)
  | ((with_reducible refine' eva_cons ?k1 ?k2); (case k1 => walk_at "k00e"); (case k2 => walk_at "k00a"))
  | ((with_reducible refine' eva_star ?k1 ?k2); (case k1 => walk_at "k00e"); (case k2 => walk_at "k00a")))
local macro_rules | `(tactic| walk_at "k00o") => `(tactic| first
  | (with_reducible exact evo_no)
  | ((with_reducible refine' evo_some ?k1); (case k1 => walk_at "k00e")))
local macro_rules | `(tactic| walk_at "k00e") => `(tactic| first
  | (with_reducible exact ev_int)
  | (with_reducible exact ev_str)
  | (with_reducible exact ev_bl)
  | (with_reducible exact ev_non)
  | ((with_reducible refine' ev_dat ?k1); (case k1 => rfl))
  | ((with_reducible refine' ev_own ?k1); (case k1 => rfl))
  | ((with_reducible refine' ev_argF ?k1 ?k2); (case k1 => rfl); (case k2 => rfl))
  | ((with_reducible refine' ev_arg ?k1); (case k1 => rfl))
  | ((with_reducible refine' ev_genF ?k1 ?k2); (case k1 => rfl); (case k2 => rfl))
  | ((with_reducible refine' ev_gen ?k1); (case k1 => rfl))
  | ((with_reducible refine' ev_raw ?k1); (case k1 => rfl))
  | ((with_reducible refine' ev_ixT ?k1 ?k2 ?k3); (case k1 => walk_at "k00e"); (case k2 => walk_at "k00e"); (case k3 => walk_at "k00i"))
  | ((with_reducible refine' ev_ixL ?k1 ?k2 ?k4 ?k3); (case k1 => walk_at "k00e"); (case k2 => walk_at "k00e"); (case k4 => first | exact Or.inl rfl | exact Or.inr rfl); (case k3 => walk_at "k00i"))
  | ((with_reducible refine' ev_isInt ?k1 ?k2); (case k1 => walk_at "k00e"); (case k2 => rfl))
  | ((with_reducible refine' ev_isBool ?k1 ?k2); (case k1 => walk_at "k00e"); (case k2 => rfl))
  | ((with_reducible refine' ev_isStr ?k1 ?k2); (case k1 => walk_at "k00e"); (case k2 => rfl))
  | ((with_reducible refine' ev_isTup ?k1 ?k2); (case k1 => walk_at "k00e"); (case k2 => rfl))
  | ((with_reducible refine' ev_isLst ?k1 ?k2); (case k1 => walk_at "k00e"); (case k2 => rfl))
  | ((with_reducible refine' ev_isSeq ?k1 ?k2); (case k1 => walk_at "k00e"); (case k2 => rfl))
  | ((with_reducible refine' ev_lenB ?k1 ?k2); (case k1 => walk_at "k00e"); (case k2 => first | exact Or.inl rfl | exact Or.inr rfl))
  | ((with_reducible refine' ev_int2 ?k1 ?k2); (case k1 => walk_at "k00e"); (case k2 => walk_at "k00e"))
  | ((with_reducible refine' ev_cmp2 ?k1 ?k2); (case k1 => walk_at "k00e"); (case k2 => walk_at "k00e"))
  | ((with_reducible refine' ev_intC ?k1 ?k2 ?k3); (case k1 => walk_at "k00e"); (case k2 => walk_at "k00e"); (case k3 => walk_at "k00c"))
  | ((with_reducible refine' ev_eqS ?k1 ?k2); (case k1 => walk_at "k00e"); (case k2 => walk_at "k00e"))
  | ((with_reducible refine' ev_eqI ?k1 ?k2); (case k1 => walk_at "k00e"); (case k2 => walk_at "k00e"))
  | ((with_reducible refine' ev_neI ?k1 ?k2); (case k1 => walk_at "k00e"); (case k2 => walk_at "k00e"))
  | ((with_reducible refine' ev_eqB ?k1 ?k2); (case k1 => walk_at "k00e"); (case k2 => walk_at "k00e"))
  | ((with_reducible refine' ev_neB ?k1 ?k2); (case k1 => walk_at "k00e"); (case k2 => walk_at "k00e"))
  | ((with_reducible refine' ev_eqD ?k1 ?k2 ?k3 ?k4 ?k5 ?k6); (case k1 => walk_at "k00e"); (case k2 => walk_at "k00e"); (case k3 => rfl); (case k4 => rfl); (case k5 => walk_at "k00s"); (case k6 => walk_at "k00s"))
  | ((with_reducible refine' ev_neD ?k1 ?k2 ?k3 ?k4 ?k5 ?k6); (case k1 => walk_at "k00e"); (case k2 => walk_at "k00e"); (case k3 => rfl); (case k4 => rfl); (case k5 => walk_at "k00s"); (case k6 => walk_at "k00s"))
  | ((with_reducible refine' ev_inD ?k1 ?k2 ?k3 ?k4 ?k5 ?k6); (case k1 => walk_at "k00e"); (case k2 => walk_at "k00e"); (case k3 => rfl); (case k4 => rfl); (case k5 => walk_at "k00s"); (case k6 => walk_at "k00s"))
  | ((with_reducible refine' ev_niD ?k1 ?k2 ?k3 ?k4 ?k5 ?k6); (case k1 => walk_at "k00e"); (case k2 => walk_at "k00e"); (case k3 => rfl); (case k4 => rfl); (case k5 => walk_at "k00s"); (case k6 => walk_at "k00s"))
  | ((with_reducible refine' ev_isNone ?k1 ?k2); (case k1 => walk_at "k00e"); (case k2 => rfl))
  | ((with_reducible refine' ev_notNone ?k1 ?k2); (case k1 => walk_at "k00e"); (case k2 => rfl))
  | ((with_reducible refine' ev_neg ?k1); (case k1 => walk_at "k00e"))
  | ((with_reducible refine' ev_tup ?k1 ?k2 ?k3); (case k1 => walk_at "k00a"); (case k2 => first | rfl | exact allF_app _ _); (case k3 => walk_at "k00l"))
  | ((with_reducible refine' ev_lst ?k1 ?k2 ?k3); (case k1 => walk_at "k00a"); (case k2 => first | rfl | exact allF_app _ _); (case k3 => walk_at "k00l"))
  | ((with_reducible refine' ev_slT ?k1 ?k2 ?k3); (case k1 => walk_at "k00e"); (case k2 => walk_at "k00o"); (case k3 => walk_at "k00o"))
  | ((with_reducible refine' ev_catT ?k1 ?k2 ?k3); (case k1 => walk_at "k00e"); (case k2 => walk_at "k00e"); (case k3 => walk_at "k00l"))
  | ((with_reducible refine' ev_cat ?k1 ?k2 ?k4 ?k5 ?k3); (case k1 => walk_at "k00e"); (case k2 => walk_at "k00e"); (case k4 => first | exact Or.inl rfl | exact Or.inr rfl); (case k5 => first | exact Or.inl rfl | exact Or.inr rfl); (case k3 => walk_at "k00l"))
  | ((with_reducible refine' ev_tupOf ?k1 ?k2); (case k1 => walk_at "k00e"); (case k2 => first | exact Or.inl rfl | exact Or.inr rfl))
  | ((with_reducible refine' ev_lstOf ?k1); (case k1 => walk_at "k00e"))
  | ((with_reducible refine' ev_intI ?k1); (case k1 => walk_at "k00e"))
  | ((with_reducible refine' ev_intB ?k1); (case k1 => walk_at "k00e"))
  | ((with_reducible refine' ev_and0 ?k1 ?k2); (case k1 => walk_at "k00e"); (case k2 => first | rfl | assumption))
  | ((with_reducible refine' ev_or1 ?k1 ?k2); (case k1 => walk_at "k00e"); (case k2 => first | rfl | assumption))
  | ((with_reducible refine' ev_ifT ?k1 ?k2 ?k3); (case k1 => walk_at "k00t"); (case k2 => first | rfl | assumption); (case k3 => walk_at "k00e"))
  | ((with_reducible refine' ev_ifF ?k1 ?k2 ?k3); (case k1 => walk_at "k00t"); (case k2 => first | rfl | assumption); (case k3 => walk_at "k00e"))
  | ((with_reducible refine' ev_andV ?k1 ?k2); (case k1 => walk_at "k00e"); (case k2 => intro hb; walk_at "k00e"))
  | ((with_reducible refine' ev_orV ?k1 ?k2); (case k1 => walk_at "k00e"); (case k2 => intro hb; walk_at "k00e"))
  | ((with_reducible refine' ev_notV ?k1); (case k1 => walk_at "k00e"))
  | ((with_reducible refine' ev_chain ?k1 ?k2 ?k3); (case k1 => walk_at "k00e"); (case k2 => walk_at "k00e"); (case k3 => walk_at "k00e"))
  | ((with_reducible refine' ev_inT ?k1 ?k2 ?k3 ?k4); (case k1 => walk_at "k00e"); (case k2 => walk_at "k00e"); (case k3 => walk_at "k00w"); (case k4 => rfl))
  | ((with_reducible refine' ev_inN ?k1 ?k2 ?k3 ?k4); (case k1 => walk_at "k00e"); (case k2 => walk_at "k00e"); (case k3 => walk_at "k00w"); (case k4 => rfl))
  | ((with_reducible refine' ev_inI ?k1 ?k2 ?k3); (case k1 => walk_at "k00e"); (case k2 => walk_at "k00e"); (case k3 => exact Or.inr (Or.inr rfl)))
  | ((with_reducible refine' ev_lcW ?k1 ?k2 ?k3 ?k4); (case k1 => walk_at "k00n"); (case k2 => decide); (case k3 => walk_at "k00x"); (case k4 => first | decide | exact of_decide_eq_true rfl))
  | walk_at "k00r"
  | (with_reducible exact ev_c))
local macro_rules | `(tactic| walk_at "k00k") => `(tactic| first
  | exact Coes.nil
  | ((refine' Coes.cons ?k1 ?k2); (case k1 => first | exact coe_rfl | exact coe_b rfl); (case k2 => walk_at "k00k")))
local macro_rules | `(tactic| walk_at "k00i") => `(tactic| first | rfl | assumption)
local macro_rules | `(tactic| walk_at "k00c") => `(tactic| first | trivial | decide | omega | assumption)
local macro_rules | `(tactic| walk_at "k00l") => `(tactic| first | decide | (simp; done) | (simp; omega) | omega | assumption | (simp [rangeR_len2, fzs]; done) | (simp [rangeR_len2, fzs]; omega))
local macro_rules | `(tactic| walk_at "k00s") => `(tactic| first | rfl | decide +kernel | assumption | exact Sh.shaped (by assumption))
local macro_rules | `(tactic| walk_at "k00t") => `(tactic| first
  | ((with_reducible refine' et_test ?k1); (case k1 => walk_at "k00e"))
  | ((with_reducible refine' et_B ?k1); (case k1 => walk_at "k00e"))
  | ((with_reducible refine' et_not ?k1); (case k1 => walk_at "k00t"))
  | ((with_reducible refine' et_and0 ?k1 ?k2); (case k1 => walk_at "k00t"); (case k2 => first | rfl | assumption))
  | ((with_reducible refine' et_or1 ?k1 ?k2); (case k1 => walk_at "k00t"); (case k2 => first | rfl | assumption))
  | ((with_reducible refine' et_and ?k1 ?k2); (case k1 => walk_at "k00t"); (case k2 => intro hb; walk_at "k00t"))
  | ((with_reducible refine' et_or ?k1 ?k2); (case k1 => walk_at "k00t"); (case k2 => intro hb; walk_at "k00t"))
  | (with_reducible exact et_yes))

local macro_rules | `(tactic| walk_at "k00n") => `(tactic| first
  | ((with_reducible refine' evi_rng1 ?k1 ?k2); (case k1 => walk_at "k00e"); (case k2 => walk_at "k00y"))
  | ((with_reducible refine' evi_rng2 ?k1 ?k2 ?k3); (case k1 => walk_at "k00e"); (case k2 => walk_at "k00e"); (case k3 => walk_at "k00y"))
  | ((with_reducible refine' evi_tup ?k1); (case k1 => walk_at "k00e"))
  | ((with_reducible refine' evi_lst ?k1 ?k2); (case k1 => walk_at "k00e"); (case k2 => first | exact Or.inl rfl | exact Or.inr rfl)))
local macro_rules | `(tactic| walk_at "k00y") => `(tactic| first | decide | omega | (simp; omega) | assumption)
local macro_rules | `(tactic| walk_at "k00x") => `(tactic| first | decide | assumption | (rw [rangeR_iv, List.length_map]; unfold iv; rw [List.length_map, List.length_range]; omega))
local macro_rules | `(tactic| walk_at "k00w") => `(tactic| first | exact Or.inr (Or.inr rfl) | exact Or.inl rfl | exact Or.inr (Or.inl rfl))
local macro_rules | `(tactic| walk_at "k00b") => `(tactic| first | decide +kernel | rfl | assumption | (simp; done))
local macro_rules | `(tactic| walk_at "k00g") => `(tactic| first
  | ((with_reducible refine' q_asgF ?k1 ?k2); (case k1 => walk_at "k00e"))
  | ((with_reducible refine' q_guardF ?k1 ?k2 ?k3); (case k1 => walk_at "k00t"); (case k2 => walk_at "k00b"))
  | ((with_reducible refine' q_guardT ?k1 ?k2 ?k3); (case k1 => walk_at "k00t"); (case k2 => walk_at "k00b"))
  | ((with_reducible refine' q_two ?k1 ?k2); (case k1 => walk_at "k00e"))
  | ((with_reducible refine' q_par ?k1 ?k2); (case k1 => walk_at "k00a"))
  | ((with_reducible refine' q_par3 ?k1 ?k2); (case k1 => walk_at "k00a")))
local macro_rules | `(tactic| walk_at "k00f") => `(tactic| ((refine' Ev.is ?k1 ?k2); (case k1 => walk_at "k00e"); (case k2 => rfl)))
local macro_rules | `(tactic| walk_at "k00r") => `(tactic| first
  | ((with_reducible refine' ev_small ?k1 ?k2); (case k1 => walk_at "k00a"); (case k2 => rfl))
  | ((with_reducible refine' ev_bank ?k1); (case k1 => walk_at "k00a"))
  | ((with_reducible refine' ev_table ?k1); (case k1 => walk_at "k00a")))
def relFirst (as : List AR) (c : AR) : Prop := ∃ t : Th, t.ok ∧ as = [.f t.d] ∧ c = .f t.first.d
def relBankC (as : List AR) (c : AR) : Prop := ∃ n : Int, (n = 2 ∨ n = 3) ∧ as = [.f (.int n)] ∧ c = .l ((bankC n).map Cal.d)
def relCalls (as : List AR) (c : AR) : Prop := ∃ t : Th, t.ok ∧ as = [.f t.d] ∧ c = .l (t.callsU.map Cal.d)
section
variable {P : Program} {w : World} {K : PySem.W.Frag} {mg : Str → Option Value} {base : Heap} {f : Addr} {fd : FuncData}
theorem sc_first_in : FnScope ["thing", "name"] ["thing"] (defScope (stm 12)) := ⟨rfl, rfl, rfl, by decide +kernel, rfl, by decide +kernel, by decide +kernel⟩
theorem sc_bank_calls : FnScope ["many", "found", "one", "other", "k", "amount"] ["many"] (defScope (stm 14)) := ⟨rfl, rfl, rfl, by decide +kernel, rfl, by decide +kernel, by decide +kernel⟩
theorem sc_calls_in : FnScope ["thing", "name", "k", "word"] ["thing"] (defScope (stm 13)) := ⟨rfl, rfl, rfl, by decide +kernel, rfl, by decide +kernel, by decide +kernel⟩
theorem ok_first_in (F : FnP K "first_in" 12 f fd) (B : Bt mg) : FnOk P w K mg base CX0 1 f fd ["thing"] (Pr relFirst) := by
  refine F.ok sc_first_in (fun vs H Q E h => pr_len (fun as c r => by obtain ⟨t, _, rfl, _⟩ := r; rfl) h) (fun cdv A outer s H vs Q E hr h => ⟨_, PSs.nox (pss_cons (ps_set (i := 1) sc_first_in.nd rfl (Or.inl rfl) (pe_ix ix_tup (pv 0) pe_int (fun _ _ => rfl)))
      (pss_cons (ps_if (pt_cmpR op_in_seq (pv 1) (pe_tup (pa_cons pe_str (pa_cons pe_str (pa_cons pe_str pa_nil)))) (by rfl)) (pss_one (ps_ret pe_int)) pss_nil)
      (pss_cons (ps_if (pt_cmpR op_eq (pv 1) pe_str (nomark _)) (pss_one (ps_ret pe_non)) pss_nil)
      (pss_one (ps_ret (pe_ifExp (pt_cmpR op_eq (pv 1) pe_str (nomark _)) (pe_ix ix_tup (pv 0) pe_int (fun _ _ => rfl)) (pe_tup pa_nil))))))), pr_start h fun as c D r ok k => ?_⟩)
  obtain ⟨t, ht, rfl, rfl⟩ := r
  cases t
  all_goals
    repeat walk_at "k00g"
    refine' st_ret (Ev.is ?h ?e) k
    case h => walk_at "k00e"
    case e => rfl
def bankI (a b : Int) : List PyData := if a ≠ b then [1, 2, 3].map (fun x => .tuple [.str "move", .int a, .int b, .int x]) else []
def bankJ (a : Int) (l : Nat) : List PyData := (List.range l).flatMap fun (b : Nat) => bankI a b
def bankO (n : Int) (m : Nat) : List PyData := (List.range m).flatMap fun (a : Nat) => bankJ a n.toNat
theorem bankI_len (a b : Int) : (bankI a b).length ≤ 3 := by
  unfold bankI
  split <;> simp
theorem bankJ_len (a : Int) (l : Nat) : (bankJ a l).length ≤ 3 * l := by
  induction l with
  | zero => simp [bankJ]
  | succ l ih =>
    have e : bankJ a (l + 1) = bankJ a l ++ bankI a l := by simp [bankJ, List.range_succ, List.flatMap_append]
    rw [e, List.length_append]
    have := bankI_len a l
    omega
theorem bankO_len {n : Int} (hn : n.toNat ≤ 3) (m : Nat) : (bankO n m).length ≤ 9 * m := by
  induction m with
  | zero => simp [bankO]
  | succ l ih =>
    have e : bankO n (l + 1) = bankO n l ++ bankJ l n.toNat := by simp [bankO, List.range_succ, List.flatMap_append]
    rw [e, List.length_append]
    have := bankJ_len l n.toNat
    omega
theorem bank_all {n : Int} (h : n = 2 ∨ n = 3) : ((rangeR 0 n).map fun d => PyData.tuple [.str "look", d]) ++ bankO n n.toNat = (bankC n).map Cal.d := by
  rcases h with rfl | rfl <;> rfl
theorem ok_bank_calls (F : FnP K "bank_calls" 14 f fd) (B : Bt mg) : FnOk P w K mg base CX0 1 f fd ["many"] (Pr relBankC) := by
  refine F.ok sc_bank_calls (fun vs H Q E h => pr_len (fun as c r => by obtain ⟨t, _, rfl, _⟩ := r; rfl) h) (fun cdv A outer s H vs Q E hr h => ⟨_, PSs.nox (pss_cons (ps_setLc (i := 1) (own := [("k", 4)]) (g := gName 4) rfl sc_bank_calls.nd rfl rfl (sw_true rfl rfl rfl (by decide +kernel)) (pi_range1 (by rfl) B.range (pa_cons (pv 0) pa_nil)) (blkOk_by (own := [("k", 4)]) (N := ["many", "found", "one", "other", "k", "amount"]) (sc := defScope (stm 14)) (by decide +kernel)) (fun _ _ _ _ _ => pg_name (i := 4) sc_bank_calls.nd rfl (Or.inl rfl)) (fun _ _ _ _ _ => pts_nil) (fun _ _ _ _ _ => (pe_tup (pa_cons pe_str (pa_cons (pv 4) pa_nil)))))
      (pss_cons (ps_for PassesOwn.never rfl (pi_range1 (by rfl) B.range (pa_cons (pv 0) pa_nil)) (pg_name (i := 2) sc_bank_calls.nd rfl (Or.inr rfl)) (pss_one (ps_for PassesOwn.never rfl (pi_range1 (by rfl) B.range (pa_cons (pv 0) pa_nil)) (pg_name (i := 3) sc_bank_calls.nd rfl (Or.inr rfl)) (pss_one (ps_if (pt_cmpR op_ne (pv 2) (pv 3) (nomark _)) (pss_one (ps_expr (pe_bm PySem.F.plainAttrs_list PySem.F.slot_list_extend PySem.F.type_list_extend mt_extend (pv 1) (pa_cons (pe_lc (own := [("amount", 5)]) (g := gName 5) rfl sc_bank_calls.nd (pi_tup (pe_tup (pa_cons pe_int (pa_cons pe_int (pa_cons pe_int pa_nil))))) (blkOk_by (own := [("amount", 5)]) (N := ["many", "found", "one", "other", "k", "amount"]) (sc := defScope (stm 14)) (by decide +kernel)) (fun _ _ _ _ _ => pg_name (i := 5) sc_bank_calls.nd rfl (Or.inl rfl)) (fun _ _ _ _ _ => pts_nil) (fun _ _ _ _ _ => (pe_tup (pa_cons pe_str (pa_cons (pv 2) (pa_cons (pv 3) (pa_cons (pv 5) pa_nil))))))) pa_nil)))) pss_nil)))))
      (pss_one (ps_ret (pv 1))))), pr_start h fun as c D r ok k => ?_⟩)
  obtain ⟨n, hn, rfl, rfl⟩ := r
  have hn3 : n.toNat ≤ 3 := by omega
  have hb : 0 ≤ n ∧ n ≤ 100000 := by omega
  refine' q_asgL ?h1 fun p => ?k1
  case h1 => walk_at "k00e"
  refine' q_forR (fun m E' => m ≤ n.toNat ∧ E' = [.dat (.int n), .own p (((rangeR 0 n).map fun d => PyData.tuple [.str "look", d]) ++ bankO n m), .no, .no, .no, .no]) (ev_dat rfl) hb ⟨Nat.zero_le _, by simp [bankO]; rfl⟩ (fun m E' hm p1 => ?turn) fun E' p1 => ?done
  case done =>
    obtain ⟨_, rfl⟩ := p1
    exact st_retOwn rfl (k.eq (by rw [bank_all hn]) rfl)
  case turn =>
    obtain ⟨_, rfl⟩ := p1
    refine' st_forR (fun l E' => l ≤ n.toNat ∧ E' = [.dat (.int n), .own p (((rangeR 0 n).map fun d => PyData.tuple [.str "look", d]) ++ bankO n m ++ bankJ m l), .dat (.int m), .no, .no, .no]) (ev_dat rfl) hb ⟨Nat.zero_le _, by simp [bankJ]⟩ (fun l E' hl p2 => ?turn2) fun E' p2 σ H S => ?done2
    case done2 =>
      obtain ⟨_, rfl⟩ := p2
      refine ⟨_, ⟨by omega, rfl⟩, ?_⟩
      have e : bankO n (m + 1) = bankO n m ++ bankJ m n.toNat := by simp [bankO, List.range_succ, List.flatMap_append]
      rw [e, ← List.append_assoc]
      exact S.wk (.same (.same (.no (.same (.same (.same .nil))))))
    case turn2 =>
      obtain ⟨_, rfl⟩ := p2
      have e : bankJ m (l + 1) = bankJ m l ++ bankI m l := by simp [bankJ, List.range_succ, List.flatMap_append]
      refine' st_if (et_test (ev_neI (ev_dat rfl) (ev_dat rfl))) (fun hb => st_extend (ds := ((rangeR 0 n).map fun d => PyData.tuple [.str "look", d]) ++ bankO n m ++ bankJ m l) (es := [PyData.int 1, .int 2, .int 3].map fun d => .tuple [.str "move", .int m, .int l, d]) rfl (by intro a ha d z; subst z; simp [List.set] at ha) ?ext ?len fun σ H S => ?fin) fun hb => st_next fun σ H S => ?fin2
      case ext => exact ev_lc1 (src := [PyData.int 1, .int 2, .int 3]) (fun d => .tuple [.str "move", .int m, .int l, d]) (evi_tup (ev_tup (as := [.f (.int 1), .f (.int 2), .f (.int 3)]) (by walk_at "k00a") rfl (by decide))) (by decide) (by decide) fun d _ => by walk_at "k00f"
      case len =>
        have h1 := bankO_len hn3 m
        have h2 := bankJ_len m l
        simp only [List.length_append, List.length_map, rangeR_len, List.length_cons, List.length_nil]
        omega
      case fin =>
        refine ⟨_, ⟨by omega, rfl⟩, ?_⟩
        have e2 : bankI m l = [PyData.int 1, .int 2, .int 3].map fun d => .tuple [.str "move", .int m, .int l, d] := by
          unfold bankI
          rw [if_pos (by simpa using hb)]
          rfl
        rw [e, e2, ← List.append_assoc]
        exact S.wk (.same (.same (.same (.no (.same (.same .nil))))))
      case fin2 =>
        refine ⟨_, ⟨by omega, rfl⟩, ?_⟩
        have e2 : bankI m l = [] := by
          unfold bankI
          rw [if_neg (by simpa using hb)]
        rw [e, e2, List.append_nil]
        exact S.wk (.same (.same (.same (.no (.same (.same .nil))))))
theorem ev_bankC {W : Wd} {H0 : Hp} {ta : TA} {E : List AV} {Ex : XK} {n : Int} (h : EvA W H0 ta E [.f (.int n)]) (hn : n = 2 ∨ n = 3) : Ev W H0 (tCall (Pr relBankC) [] Ex ta) E (.l ((bankC n).map Cal.d)) :=
  ev_call h (.cons coe_rfl .nil) ⟨_, hn, rfl, rfl⟩ trivial
theorem head_map (rows : List (List (Int × Int))) (h : 1 ≤ rows.length) : (rows.map rowP).headD .none = rowP (rows.headD []) := by
  cases rows with
  | nil => simp at h
  | cons a l => rfl
theorem row_wide {rows : List (List (Int × Int))} (h : Th.ok (.table rows)) : atI (rows.map rowP) 0 = some (rowP (rows.headD [])) ∧ 1 ≤ (rows.headD []).length ∧ (rows.headD []).length ≤ 3 := by
  obtain ⟨⟨h1, h2⟩, w, ⟨w1, w2⟩, hr⟩ := h
  refine ⟨?_, ?_⟩
  · rw [atI0_head (d := PyData.none) (by rw [List.length_map]; exact h1), head_map _ h1]
  · have e : (rows.headD []).length = w := by
      cases rows with
      | nil => simp at h1
      | cons r t => exact (hr r List.mem_cons_self).1
    omega
theorem ok_calls_in {f1 : Addr} {fd1 : FuncData} (F : FnP K "calls_in" 13 f fd) (B : Bt mg) (G_bank_calls : FnOk P w K mg base CX0 1 f1 fd1 ["many"] (Pr relBankC)) (N_bank_calls : Kn K mg "bank_calls" ["many"] f1 fd1) :
    FnOk P w K mg base CX0 2 f fd ["thing"] (Pr relCalls) := by
  refine F.ok sc_calls_in (fun vs H Q E h => pr_len (fun as c r => by obtain ⟨t, _, rfl, _⟩ := r; rfl) h) (fun cdv A outer s H vs Q E hr h => ⟨_, PSs.nox (pss_cons (ps_set (i := 1) sc_calls_in.nd rfl (Or.inl rfl) (pe_ix ix_tup (pv 0) pe_int (fun _ _ => rfl)))
      (pss_cons (ps_if (pt_cmpR op_eq (pv 1) pe_str (nomark _)) (pss_one (ps_ret (pe_op op_cat (pe_lc (own := [("k", 2)]) (g := gName 2) rfl sc_calls_in.nd (pi_range2 (by rfl) B.range (pa_cons pe_int (pa_cons (pe_ix ix_tup (pv 0) pe_int (fun _ _ => rfl)) pa_nil))) (blkOk_by (own := [("k", 2)]) (N := ["thing", "name", "k", "word"]) (sc := defScope (stm 13)) (by decide +kernel)) (fun _ _ _ _ _ => pg_name (i := 2) sc_calls_in.nd rfl (Or.inl rfl)) (fun _ _ _ _ _ => pts_nil) (fun _ _ _ _ _ => (pe_tup (pa_cons pe_str (pa_cons (pv 2) pa_nil))))) (pe_lst (pa_cons (pe_tup (pa_cons pe_str pa_nil)) pa_nil))))) pss_nil)
      (pss_cons (ps_if (pt_cmpR op_eq (pv 1) pe_str (nomark _)) (pss_one (ps_ret (pe_op op_cat (pe_op op_cat (pe_lst (pa_cons (pe_tup (pa_cons pe_str pa_nil)) pa_nil)) (pe_lc (own := [("k", 2)]) (g := gName 2) rfl sc_calls_in.nd (pi_range1 (by rfl) B.range (pa_cons (pe_ix ix_tup (pv 0) pe_int (fun _ _ => rfl)) pa_nil)) (blkOk_by (own := [("k", 2)]) (N := ["thing", "name", "k", "word"]) (sc := defScope (stm 13)) (by decide +kernel)) (fun _ _ _ _ _ => pg_name (i := 2) sc_calls_in.nd rfl (Or.inl rfl)) (fun _ _ _ _ _ => pts_nil) (fun _ _ _ _ _ => (pe_tup (pa_cons pe_str (pa_cons (pv 2) pa_nil)))))) (pe_lc (own := [("k", 2)]) (g := gName 2) rfl sc_calls_in.nd (pi_range1 (by rfl) B.range (pa_cons (pe_ix ix_tup (pv 0) pe_int (fun _ _ => rfl)) pa_nil)) (blkOk_by (own := [("k", 2)]) (N := ["thing", "name", "k", "word"]) (sc := defScope (stm 13)) (by decide +kernel)) (fun _ _ _ _ _ => pg_name (i := 2) sc_calls_in.nd rfl (Or.inl rfl)) (fun _ _ _ _ _ => pts_nil) (fun _ _ _ _ _ => (pe_tup (pa_cons pe_str (pa_cons (pv 2) pa_nil)))))))) pss_nil)
      (pss_cons (ps_if (pt_cmpR op_eq (pv 1) pe_str (nomark _)) (pss_one (ps_ret (pe_op op_cat (pe_lc (own := [("k", 2)]) (g := gName 2) rfl sc_calls_in.nd (pi_range1 (by rfl) B.range (pa_cons (pe_ix ix_tup (pv 0) pe_int (fun _ _ => rfl)) pa_nil)) (blkOk_by (own := [("k", 2)]) (N := ["thing", "name", "k", "word"]) (sc := defScope (stm 13)) (by decide +kernel)) (fun _ _ _ _ _ => pg_name (i := 2) sc_calls_in.nd rfl (Or.inl rfl)) (fun _ _ _ _ _ => pts_nil) (fun _ _ _ _ _ => (pe_tup (pa_cons pe_str (pa_cons (pv 2) pa_nil))))) (pe_lst (pa_cons (pe_tup (pa_cons pe_str pa_nil)) pa_nil))))) pss_nil)
      (pss_cons (ps_if (pt_cmpR op_eq (pv 1) pe_str (nomark _)) (pss_one (ps_ret (pe_op op_cat (pe_lc (own := [("k", 2)]) (g := gName 2) rfl sc_calls_in.nd (pi_range1 (by rfl) B.range (pa_cons (pe_ix ix_tup (pv 0) pe_int (fun _ _ => rfl)) pa_nil)) (blkOk_by (own := [("k", 2)]) (N := ["thing", "name", "k", "word"]) (sc := defScope (stm 13)) (by decide +kernel)) (fun _ _ _ _ _ => pg_name (i := 2) sc_calls_in.nd rfl (Or.inl rfl)) (fun _ _ _ _ _ => pts_nil) (fun _ _ _ _ _ => (pe_tup (pa_cons pe_str (pa_cons (pv 2) pa_nil))))) (pe_lst (pa_cons (pe_tup (pa_cons pe_str pa_nil)) pa_nil))))) pss_nil)
      (pss_cons (ps_if (pt_cmpR op_eq (pv 1) pe_str (nomark _)) (pss_one (ps_ret (pe_lc2 (own := [("word", 3), ("k", 2)]) (g := gName 3) (g1 := gName 2) rfl sc_calls_in.nd (pi_tup (pe_tup (pa_cons pe_str (pa_cons pe_str (pa_cons pe_str pa_nil))))) (blkOk_by (own := [("word", 3), ("k", 2)]) (N := ["thing", "name", "k", "word"]) (sc := defScope (stm 13)) (by decide +kernel)) (vs1 := [2]) (by decide) (fun _ _ _ _ _ => pg_name (i := 3) sc_calls_in.nd rfl (Or.inl rfl)) (fun _ _ _ _ _ => pts_nil) (fun _ _ _ _ _ => (pi_range1 (by rfl) B.range (pa_cons (pe_ix (ix_tup : IxR _ (rIxT K)) (pv 0) pe_int (fun _ _ => rfl)) pa_nil))) (fun _ _ _ _ _ => pg_name (i := 2) sc_calls_in.nd rfl (Or.inl rfl)) (fun _ _ _ _ _ => pts_nil) (fun _ _ _ _ _ => (pe_tup (pa_cons (pv 3) (pa_cons (pv 2) pa_nil))))))) pss_nil)
      (pss_cons (ps_if (pt_cmpR op_eq (pv 1) pe_str (nomark _)) (pss_one (ps_ret (pe_lc (own := [("k", 2)]) (g := gName 2) rfl sc_calls_in.nd (pi_range1 (by rfl) B.range (pa_cons (pe_ix ix_tup (pv 0) pe_int (fun _ _ => rfl)) pa_nil)) (blkOk_by (own := [("k", 2)]) (N := ["thing", "name", "k", "word"]) (sc := defScope (stm 13)) (by decide +kernel)) (fun _ _ _ _ _ => pg_name (i := 2) sc_calls_in.nd rfl (Or.inl rfl)) (fun _ _ _ _ _ => pts_nil) (fun _ _ _ _ _ => (pe_tup (pa_cons pe_str (pa_cons (pv 2) pa_nil))))))) pss_nil)
      (pss_cons (ps_if (pt_cmpR op_eq (pv 1) pe_str (nomark _)) (pss_one (ps_ret (k_call G_bank_calls N_bank_calls hr (by decide) rfl (pa_cons (k_len B.len rfl (pa_cons (pe_ix ix_tup (pv 0) pe_int (fun _ _ => rfl)) pa_nil)) pa_nil)))) pss_nil)
      (pss_one (ps_ret (pe_lc (own := [("k", 2)]) (g := gName 2) rfl sc_calls_in.nd (pi_range1 (by rfl) B.range (pa_cons (k_len B.len rfl (pa_cons (pe_ix ix_tup (pe_ix ix_tup (pv 0) pe_int (fun _ _ => rfl)) pe_int (fun _ _ => rfl)) pa_nil)) pa_nil)) (blkOk_by (own := [("k", 2)]) (N := ["thing", "name", "k", "word"]) (sc := defScope (stm 13)) (by decide +kernel)) (fun _ _ _ _ _ => pg_name (i := 2) sc_calls_in.nd rfl (Or.inl rfl)) (fun _ _ _ _ _ => pts_nil) (fun _ _ _ _ _ => (pe_tup (pa_cons pe_str (pa_cons (pv 2) pa_nil))))))))))))))), pr_start h fun as c D r ok k => ?_⟩)
  obtain ⟨t, ht, rfl, rfl⟩ := r
  cases t with
  | counter m =>
    have hm : 2 ≤ m ∧ m ≤ 4 := ht
    repeat walk_at "k00g"
    refine' st_ret (Ev.is ?h ?e) k
    case h => walk_at "k00e"
    case e => rcases two4 hm with rfl | rfl | rfl <;> rfl
  | register m =>
    have hm : 2 ≤ m ∧ m ≤ 4 := ht
    repeat walk_at "k00g"
    refine' st_ret (Ev.is ?h ?e) k
    case h => walk_at "k00e"
    case e => rcases two4 hm with rfl | rfl | rfl <;> rfl
  | stack r m =>
    have hm : 1 ≤ m ∧ m ≤ 2 := ht.2
    repeat walk_at "k00g"
    refine' st_ret (Ev.is ?h ?e) k
    case h => walk_at "k00e"
    case e => rcases one2 hm with rfl | rfl <;> rfl
  | queue r m =>
    have hm : 1 ≤ m ∧ m ≤ 2 := ht.2
    repeat walk_at "k00g"
    refine' st_ret (Ev.is ?h ?e) k
    case h => walk_at "k00e"
    case e => rcases one2 hm with rfl | rfl <;> rfl
  | set m =>
    have hm : 2 ≤ m ∧ m ≤ 3 := ht
    repeat walk_at "k00g"
    refine' st_ret (Ev.is ?h ?e) k
    case h => exact ev_lc2 (src := [.str "add", .str "drop", .str "has"]) (n := m) (fun w k => .tuple [w, k]) (evi_tup (by walk_at "k00f")) (by decide) (by decide) (by omega) (by decide) (fun d _ => by walk_at "k00f") fun d _ e _ => by walk_at "k00f"
    case e => rcases two3 hm with rfl | rfl <;> rfl
  | agree m =>
    have hm : 2 ≤ m ∧ m ≤ 3 := ht
    repeat walk_at "k00g"
    refine' st_ret (Ev.is ?h ?e) k
    case h => walk_at "k00e"
    case e => rcases two3 hm with rfl | rfl <;> rfl
  | bank ns =>
    have hn : (((ns.map PyData.int).length : Int)) = 2 ∨ (((ns.map PyData.int).length : Int)) = 3 := by
      rw [List.length_map]
      have := ht.1
      omega
    repeat walk_at "k00g"
    refine' st_ret (Ev.is ?h ?e) k
    case h => exact ev_bankC (by walk_at "k00a") hn
    case e =>
      rw [List.length_map]
      rfl
  | table rows =>
    obtain ⟨i0, w1, w2⟩ := row_wide ht
    have hb : 0 ≤ ((((rows.headD []).map pairP).length : Int)) ∧ ((((rows.headD []).map pairP).length : Int)) ≤ 100000 := by
      rw [List.length_map]
      omega
    repeat walk_at "k00g"
    refine' st_ret (Ev.is ?h ?e) k
    case h =>
      refine' ev_lcW (evi_rng1 ?h1 hb) (by decide) ?h2 (of_decide_eq_true rfl)
      case h1 => walk_at "k00e"
      case h2 =>
        rw [rangeR_len2, List.length_map]
        omega
    case e =>
      rw [rangeR_iv, List.length_map, List.map_map]
      show _ = AR.l (((iv 0 (rows.headD []).length).map fun k => (⟨"do", [k]⟩ : Cal)).map Cal.d)
      rw [List.map_map]
      rfl
end
end K00

/-! Part D. -/
set_option Elab.async false
set_option linter.all false
set_option autoImplicit false
set_option maxRecDepth 100000
set_option maxHeartbeats 4000000
/-! What a call does, in the program. -/
namespace K00
open PySem PySem.Spec PyProof.Rows L2
local macro_rules | `(tactic| walk_at "k00a") => `(tactic| first
  | (with_reducible exact eva_nil)
  | ((with_reducible refine' eva_cons ?k1 ?k2); (case k1 => walk_at "k00e"); (case k2 => walk_at "k00a"))
  | ((with_reducible refine' eva_star ?k1 ?k2); (case k1 => walk_at "k00e"); (case k2 => walk_at "k00a")))
local macro_rules | `(tactic| walk_at "k00o") => `(tactic| first
  | (with_reducible exact evo_no)
  | ((with_reducible refine' evo_some ?k1); (case k1 => walk_at "k00e")))
local macro_rules | `(tactic| walk_at "k00e") => `(tactic| first
  | (with_reducible exact ev_int)
  | (with_reducible exact ev_str)
  | (with_reducible exact ev_bl)
  | (with_reducible exact ev_non)
  | ((with_reducible refine' ev_dat ?k1); (case k1 => rfl))
  | ((with_reducible refine' ev_own ?k1); (case k1 => rfl))
  | ((with_reducible refine' ev_argF ?k1 ?k2); (case k1 => rfl); (case k2 => rfl))
  | ((with_reducible refine' ev_arg ?k1); (case k1 => rfl))
  | ((with_reducible refine' ev_genF ?k1 ?k2); (case k1 => rfl); (case k2 => rfl))
  | ((with_reducible refine' ev_gen ?k1); (case k1 => rfl))
  | ((with_reducible refine' ev_raw ?k1); (case k1 => rfl))
  | ((with_reducible refine' ev_ixT ?k1 ?k2 ?k3); (case k1 => walk_at "k00e"); (case k2 => walk_at "k00e"); (case k3 => walk_at "k00i"))
  | ((with_reducible refine' ev_ixL ?k1 ?k2 ?k4 ?k3); (case k1 => walk_at "k00e"); (case k2 => walk_at "k00e"); (case k4 => first | exact Or.inl rfl | exact Or.inr rfl); (case k3 => walk_at "k00i"))
  | ((with_reducible refine' ev_isInt ?k1 ?k2); (case k1 => walk_at "k00e"); (case k2 => rfl))
  | ((with_reducible refine' ev_isBool ?k1 ?k2); (case k1 => walk_at "k00e"); (case k2 => rfl))
  | ((with_reducible refine' ev_isStr ?k1 ?k2); (case k1 => walk_at "k00e"); (case k2 => rfl))
  | ((with_reducible refine' ev_isTup ?k1 ?k2); (case k1 => walk_at "k00e"); (case k2 => rfl))
  | ((with_reducible refine' ev_isLst ?k1 ?k2); (case k1 => walk_at "k00e"); (case k2 => rfl))
  | ((with_reducible refine' ev_isSeq ?k1 ?k2); (case k1 => walk_at "k00e"); (case k2 => rfl))
  | ((with_reducible refine' ev_lenB ?k1 ?k2); (case k1 => walk_at "k00e"); (case k2 => first | exact Or.inl rfl | exact Or.inr rfl))
  | ((with_reducible refine' ev_int2 ?k1 ?k2); (case k1 => walk_at "k00e"); (case k2 => walk_at "k00e"))
  | ((with_reducible refine' ev_cmp2 ?k1 ?k2); (case k1 => walk_at "k00e"); (case k2 => walk_at "k00e"))
  | ((with_reducible refine' ev_intC ?k1 ?k2 ?k3); (case k1 => walk_at "k00e"); (case k2 => walk_at "k00e"); (case k3 => walk_at "k00c"))
  | ((with_reducible refine' ev_eqS ?k1 ?k2); (case k1 => walk_at "k00e"); (case k2 => walk_at "k00e"))
  | ((with_reducible refine' ev_eqI ?k1 ?k2); (case k1 => walk_at "k00e"); (case k2 => walk_at "k00e"))
  | ((with_reducible refine' ev_neI ?k1 ?k2); (case k1 => walk_at "k00e"); (case k2 => walk_at "k00e"))
  | ((with_reducible refine' ev_eqB ?k1 ?k2); (case k1 => walk_at "k00e"); (case k2 => walk_at "k00e"))
  | ((with_reducible refine' ev_neB ?k1 ?k2); (case k1 => walk_at "k00e"); (case k2 => walk_at "k00e"))
  | ((with_reducible refine' ev_eqD ?k1 ?k2 ?k3 ?k4 ?k5 ?k6); (case k1 => walk_at "k00e"); (case k2 => walk_at "k00e"); (case k3 => rfl); (case k4 => rfl); (case k5 => walk_at "k00s"); (case k6 => walk_at "k00s"))
  | ((with_reducible refine' ev_neD ?k1 ?k2 ?k3 ?k4 ?k5 ?k6); (case k1 => walk_at "k00e"); (case k2 => walk_at "k00e"); (case k3 => rfl); (case k4 => rfl); (case k5 => walk_at "k00s"); (case k6 => walk_at "k00s"))
  | ((with_reducible refine' ev_inD ?k1 ?k2 ?k3 ?k4 ?k5 ?k6); (case k1 => walk_at "k00e"); (case k2 => walk_at "k00e"); (case k3 => rfl); (case k4 => rfl); (case k5 => walk_at "k00s"); (case k6 => walk_at "k00s"))
  | ((with_reducible refine' ev_niD ?k1 ?k2 ?k3 ?k4 ?k5 ?k6); (case k1 => walk_at "k00e"); (case k2 => walk_at "k00e"); (case k3 => rfl); (case k4 => rfl); (case k5 => walk_at "k00s"); (case k6 => walk_at "k00s"))
  | ((with_reducible refine' ev_isNone ?k1 ?k2); (case k1 => walk_at "k00e"); (case k2 => rfl))
  | ((with_reducible refine' ev_notNone ?k1 ?k2); (case k1 => walk_at "k00e"); (case k2 => rfl))
  | ((with_reducible refine' ev_neg ?k1); (case k1 => walk_at "k00e"))
  | ((with_reducible refine' ev_tup ?k1 ?k2 ?k3); (case k1 => walk_at "k00a"); (case k2 => first | rfl | exact allF_app _ _); (case k3 => walk_at "k00l"))
  | ((with_reducible refine' ev_lst ?k1 ?k2 ?k3); (case k1 => walk_at "k00a"); (case k2 => first | rfl | exact allF_app _ _); (case k3 => walk_at "k00l"))
  | ((with_reducible refine' ev_slT ?k1 ?k2 ?k3); (case k1 => walk_at "k00e"); (case k2 => walk_at "k00o"); (case k3 => walk_at "k00o"))
  | ((with_reducible refine' ev_catT ?k1 ?k2 ?k3); (case k1 => walk_at "k00e"); (case k2 => walk_at "k00e"); (case k3 => walk_at "k00l"))
  | ((with_reducible refine' ev_cat ?k1 ?k2 ?k4 ?k5 ?k3); (case k1 => walk_at "k00e"); (case k2 => walk_at "k00e"); (case k4 => first | exact Or.inl rfl | exact Or.inr rfl); (case k5 => first | exact Or.inl rfl | exact Or.inr rfl); (case k3 => walk_at "k00l"))
  | ((with_reducible refine' ev_tupOf ?k1 ?k2); (case k1 => walk_at "k00e"); (case k2 => first | exact Or.inl rfl | exact Or.inr rfl))
  | ((with_reducible refine' ev_lstOf ?k1); (case k1 => walk_at "k00e"))
  | ((with_reducible refine' ev_intI ?k1); (case k1 => walk_at "k00e"))
  | ((with_reducible refine' ev_intB ?k1); (case k1 => walk_at "k00e"))
  | ((with_reducible refine' ev_and0 ?k1 ?k2); (case k1 => walk_at "k00e"); (case k2 => first | rfl | assumption))
  | ((with_reducible refine' ev_or1 ?k1 ?k2); (case k1 => walk_at "k00e"); (case k2 => first | rfl | assumption))
  | ((with_reducible refine' ev_ifT ?k1 ?k2 ?k3); (case k1 => walk_at "k00t"); (case k2 => first | rfl | assumption); (case k3 => walk_at "k00e"))
  | ((with_reducible refine' ev_ifF ?k1 ?k2 ?k3); (case k1 => walk_at "k00t"); (case k2 => first | rfl | assumption); (case k3 => walk_at "k00e"))
  | ((with_reducible refine' ev_andV ?k1 ?k2); (case k1 => walk_at "k00e"); (case k2 => intro hb; walk_at "k00e"))
  | ((with_reducible refine' ev_orV ?k1 ?k2); (case k1 => walk_at "k00e"); (case k2 => intro hb; walk_at "k00e"))
  | ((with_reducible refine' ev_notV ?k1); (case k1 => walk_at "k00e"))
  | ((with_reducible refine' ev_chain ?k1 ?k2 ?k3); (case k1 => walk_at "k00e"); (case k2 => walk_at "k00e"); (case k3 => walk_at "k00e"))
  | ((with_reducible refine' ev_inT ?k1 ?k2 ?k3 ?k4); (case k1 => walk_at "k00e"); (case k2 => walk_at "k00e"); (case k3 => walk_at "k00w"); (case k4 => rfl))
  | ((with_reducible refine' ev_inN ?k1 ?k2 ?k3 ?k4); (case k1 => walk_at "k00e"); (case k2 => walk_at "k00e"); (case k3 => walk_at "k00w"); (case k4 => rfl))
  | ((with_reducible refine' ev_inI ?k1 ?k2 ?k3); (case k1 => walk_at "k00e"); (case k2 => walk_at "k00e"); (case k3 => exact Or.inr (Or.inr rfl)))
  | ((with_reducible refine' ev_lcW ?k1 ?k2 ?k3 ?k4); (case k1 => walk_at "k00n"); (case k2 => decide); (case k3 => walk_at "k00x"); (case k4 => first | decide | exact of_decide_eq_true rfl))
  | walk_at "k00r"
  | (with_reducible exact ev_c))
local macro_rules | `(tactic| walk_at "k00k") => `(tactic| first
  | exact Coes.nil
  | ((refine' Coes.cons ?k1 ?k2); (case k1 => first | exact coe_rfl | exact coe_b rfl); (case k2 => walk_at "k00k")))
local macro_rules | `(tactic| walk_at "k00i") => `(tactic| first | rfl | assumption)
local macro_rules | `(tactic| walk_at "k00c") => `(tactic| first | trivial | decide | omega | assumption)
local macro_rules | `(tactic| walk_at "k00l") => `(tactic| first | decide | (simp; done) | (simp; omega) | omega | assumption | (simp [rangeR_len2, fzs]; done) | (simp [rangeR_len2, fzs]; omega))
local macro_rules | `(tactic| walk_at "k00s") => `(tactic| first | rfl | decide +kernel | assumption | exact Sh.shaped (by assumption))
local macro_rules | `(tactic| walk_at "k00t") => `(tactic| first
  | ((with_reducible refine' et_test ?k1); (case k1 => walk_at "k00e"))
  | ((with_reducible refine' et_B ?k1); (case k1 => walk_at "k00e"))
  | ((with_reducible refine' et_not ?k1); (case k1 => walk_at "k00t"))
  | ((with_reducible refine' et_and0 ?k1 ?k2); (case k1 => walk_at "k00t"); (case k2 => first | rfl | assumption))
  | ((with_reducible refine' et_or1 ?k1 ?k2); (case k1 => walk_at "k00t"); (case k2 => first | rfl | assumption))
  | ((with_reducible refine' et_and ?k1 ?k2); (case k1 => walk_at "k00t"); (case k2 => intro hb; walk_at "k00t"))
  | ((with_reducible refine' et_or ?k1 ?k2); (case k1 => walk_at "k00t"); (case k2 => intro hb; walk_at "k00t"))
  | (with_reducible exact et_yes))

local macro_rules | `(tactic| walk_at "k00n") => `(tactic| first
  | ((with_reducible refine' evi_rng1 ?k1 ?k2); (case k1 => walk_at "k00e"); (case k2 => walk_at "k00y"))
  | ((with_reducible refine' evi_rng2 ?k1 ?k2 ?k3); (case k1 => walk_at "k00e"); (case k2 => walk_at "k00e"); (case k3 => walk_at "k00y"))
  | ((with_reducible refine' evi_tup ?k1); (case k1 => walk_at "k00e"))
  | ((with_reducible refine' evi_lst ?k1 ?k2); (case k1 => walk_at "k00e"); (case k2 => first | exact Or.inl rfl | exact Or.inr rfl)))
local macro_rules | `(tactic| walk_at "k00y") => `(tactic| first | decide | omega | (simp; omega) | assumption)
local macro_rules | `(tactic| walk_at "k00x") => `(tactic| first | decide | assumption | (rw [rangeR_iv, List.length_map]; unfold iv; rw [List.length_map, List.length_range]; omega))
local macro_rules | `(tactic| walk_at "k00w") => `(tactic| first | exact Or.inr (Or.inr rfl) | exact Or.inl rfl | exact Or.inr (Or.inl rfl))
local macro_rules | `(tactic| walk_at "k00b") => `(tactic| first | decide +kernel | rfl | assumption | (simp; done))
local macro_rules | `(tactic| walk_at "k00g") => `(tactic| first
  | ((with_reducible refine' q_asgF ?k1 ?k2); (case k1 => walk_at "k00e"))
  | ((with_reducible refine' q_guardF ?k1 ?k2 ?k3); (case k1 => walk_at "k00t"); (case k2 => walk_at "k00b"))
  | ((with_reducible refine' q_guardT ?k1 ?k2 ?k3); (case k1 => walk_at "k00t"); (case k2 => walk_at "k00b"))
  | ((with_reducible refine' q_two ?k1 ?k2); (case k1 => walk_at "k00e"))
  | ((with_reducible refine' q_par ?k1 ?k2); (case k1 => walk_at "k00a"))
  | ((with_reducible refine' q_par3 ?k1 ?k2); (case k1 => walk_at "k00a")))
local macro_rules | `(tactic| walk_at "k00f") => `(tactic| ((refine' Ev.is ?k1 ?k2); (case k1 => walk_at "k00e"); (case k2 => rfl)))
local macro_rules | `(tactic| walk_at "k00r") => `(tactic| first
  | ((with_reducible refine' ev_small ?k1 ?k2); (case k1 => walk_at "k00a"); (case k2 => rfl))
  | ((with_reducible refine' ev_bank ?k1); (case k1 => walk_at "k00a"))
  | ((with_reducible refine' ev_table ?k1); (case k1 => walk_at "k00a")))
/-- what a call does, as data -/
def Th.stepD (t : Th) (s : Sta) (c : Cal) : PyData := .tuple [(t.step s c).1.d, (t.step s c).2]
def relStep (as : List AR) (c : AR) : Prop := ∃ (t : Th) (s : Sta) (l : Cal), t.ok ∧ t.okS s ∧ t.okC l ∧ as = [.f t.d, .f s.d, .f l.d] ∧ c = .f (t.stepD s l)
def isStack : Th → Bool
  | .stack _ _ => true
  | _ => false
def isQueue : Th → Bool
  | .queue _ _ => true
  | _ => false
def isSet : Th → Bool
  | .set _ => true
  | _ => false
def isBank : Th → Bool
  | .bank _ => true
  | _ => false
def relStack (as : List AR) (c : AR) : Prop := ∃ (t : Th) (s : Sta) (l : Cal), isStack t = true ∧ t.ok ∧ t.okS s ∧ t.okC l ∧ as = [.f t.d, .f s.d, .f l.d] ∧ c = .f (t.stepD s l)
def relQueue (as : List AR) (c : AR) : Prop := ∃ (t : Th) (s : Sta) (l : Cal), isQueue t = true ∧ t.ok ∧ t.okS s ∧ t.okC l ∧ as = [.f t.d, .f s.d, .f l.d] ∧ c = .f (t.stepD s l)
def relSet (as : List AR) (c : AR) : Prop := ∃ (t : Th) (s : Sta) (l : Cal), isSet t = true ∧ t.ok ∧ t.okS s ∧ t.okC l ∧ as = [.f s.d, .f l.d] ∧ c = .f (t.stepD s l)
def relBankS (as : List AR) (c : AR) : Prop := ∃ (t : Th) (s : Sta) (l : Cal), isBank t = true ∧ t.ok ∧ t.okS s ∧ t.okC l ∧ as = [.f s.d, .f l.d] ∧ c = .f (t.stepD s l)
theorem len2 {ns : List Int} {r : Int} (hr : 1 ≤ r ∧ r ≤ 2) (h : (ns.length : Int) ≤ r) : ns = [] ∨ (∃ a, ns = [a]) ∨ ∃ a b, ns = [a, b] := by
  rcases ns with _ | ⟨a, _ | ⟨b, _ | ⟨c, l⟩⟩⟩
  · exact .inl rfl
  · exact .inr (.inl ⟨a, rfl⟩)
  · exact .inr (.inr ⟨a, b, rfl⟩)
  · simp at h
    omega
section
variable {P : Program} {w : World} {K : PySem.W.Frag} {mg : Str → Option Value} {base : Heap} {f : Addr} {fd : FuncData}
theorem sc_on_stack : FnScope ["thing", "state", "call"] ["thing", "state", "call"] (defScope (stm 16)) := ⟨rfl, rfl, rfl, by decide +kernel, rfl, by decide +kernel, by decide +kernel⟩
theorem sc_on_queue : FnScope ["thing", "state", "call"] ["thing", "state", "call"] (defScope (stm 17)) := ⟨rfl, rfl, rfl, by decide +kernel, rfl, by decide +kernel, by decide +kernel⟩
theorem sc_on_set : FnScope ["state", "call", "is_in", "one"] ["state", "call"] (defScope (stm 18)) := ⟨rfl, rfl, rfl, by decide +kernel, rfl, by decide +kernel, by decide +kernel⟩
theorem sc_on_bank : FnScope ["state", "call", "found", "one", "other", "amount"] ["state", "call"] (defScope (stm 19)) := ⟨rfl, rfl, rfl, by decide +kernel, rfl, by decide +kernel, by decide +kernel⟩
theorem sc_applied_in : FnScope ["thing", "state", "call", "name"] ["thing", "state", "call"] (defScope (stm 15)) := ⟨rfl, rfl, rfl, by decide +kernel, rfl, by decide +kernel, by decide +kernel⟩
theorem ok_on_stack (F : FnP K "on_stack" 16 f fd) (B : Bt mg) : FnOk P w K mg base CX0 1 f fd ["thing", "state", "call"] (Pr relStack) := by
  refine F.ok sc_on_stack (fun vs H Q E h => pr_len (fun as c r => by obtain ⟨t, s, l, _, _, _, _, rfl, _⟩ := r; rfl) h) (fun cdv A outer s H vs Q E hr h => ⟨_, PSs.nox (pss_cons (ps_if (pt_cmpR op_eq (pe_ix ix_tup (pv 2) pe_int (fun _ _ => rfl)) pe_str (nomark _)) (pss_one (ps_ret (pe_ifExp (pt_cmpR op_eq (k_len B.len rfl (pa_cons (pv 1) pa_nil)) (pe_ix ix_tup (pv 0) pe_int (fun _ _ => rfl)) (nomark _)) (pe_tup (pa_cons (pv 1) (pa_cons pe_bl pa_nil))) (pe_tup (pa_cons (pe_tup (StX.pa_star (pv 1) (pa_cons (pe_ix ix_tup (pv 2) pe_int (fun _ _ => rfl)) pa_nil))) (pa_cons pe_bl pa_nil)))))) pss_nil)
      (pss_one (ps_ret (pe_ifExp (pt_cmpR (op_eqD hr.units) (pv 1) (pe_tup pa_nil) (nomark _)) (pe_tup (pa_cons (pv 1) (pa_cons pe_non pa_nil))) (pe_tup (pa_cons (pe_slice sl_tupA (pv 1) po_none (po_some (pe_un un_neg pe_int))) (pa_cons (pe_ix ix_tup (pv 1) (pe_un un_neg pe_int) (fun _ _ => rfl)) pa_nil))))))), pr_start h fun as c D r ok k => ?_⟩)
  obtain ⟨t, s, l, ti, ht, hs, hl, rfl, rfl⟩ := r
  cases t with
  | stack r m =>
    cases s with
    | seq ns =>
      obtain ⟨hn, hk⟩ := hs
      rcases hl with rfl | ⟨x, hx, rfl⟩
      · rcases len2 ht.1 hn with rfl | ⟨a, rfl⟩ | ⟨a, b, rfl⟩
        all_goals
          repeat walk_at "k00g"
          refine' st_ret (Ev.is ?h ?e) k
          case h => walk_at "k00e"
          case e => rfl
      · rcases one2 ht.1 with rfl | rfl
        all_goals
          rcases len2 ht.1 hn with rfl | ⟨a, rfl⟩ | ⟨a, b, rfl⟩
          all_goals
            first
            | (exfalso; simp at hn; done)
            | (repeat walk_at "k00g"
               refine' st_ret (Ev.is ?h ?e) k
               case h => walk_at "k00e"
               case e => rfl)
    | _ => exact hs.elim
  | _ => cases ti
theorem ok_on_queue (F : FnP K "on_queue" 17 f fd) (B : Bt mg) : FnOk P w K mg base CX0 1 f fd ["thing", "state", "call"] (Pr relQueue) := by
  refine F.ok sc_on_queue (fun vs H Q E h => pr_len (fun as c r => by obtain ⟨t, s, l, _, _, _, _, rfl, _⟩ := r; rfl) h) (fun cdv A outer s H vs Q E hr h => ⟨_, PSs.nox (pss_cons (ps_if (pt_cmpR op_eq (pe_ix ix_tup (pv 2) pe_int (fun _ _ => rfl)) pe_str (nomark _)) (pss_one (ps_ret (pe_ifExp (pt_cmpR op_eq (k_len B.len rfl (pa_cons (pv 1) pa_nil)) (pe_ix ix_tup (pv 0) pe_int (fun _ _ => rfl)) (nomark _)) (pe_tup (pa_cons (pv 1) (pa_cons pe_bl pa_nil))) (pe_tup (pa_cons (pe_tup (StX.pa_star (pv 1) (pa_cons (pe_ix ix_tup (pv 2) pe_int (fun _ _ => rfl)) pa_nil))) (pa_cons pe_bl pa_nil)))))) pss_nil)
      (pss_one (ps_ret (pe_ifExp (pt_cmpR (op_eqD hr.units) (pv 1) (pe_tup pa_nil) (nomark _)) (pe_tup (pa_cons (pv 1) (pa_cons pe_non pa_nil))) (pe_tup (pa_cons (pe_slice sl_tupA (pv 1) (po_some pe_int) po_none) (pa_cons (pe_ix ix_tup (pv 1) pe_int (fun _ _ => rfl)) pa_nil))))))), pr_start h fun as c D r ok k => ?_⟩)
  obtain ⟨t, s, l, ti, ht, hs, hl, rfl, rfl⟩ := r
  cases t with
  | queue r m =>
    cases s with
    | seq ns =>
      obtain ⟨hn, hk⟩ := hs
      rcases hl with rfl | ⟨x, hx, rfl⟩
      · rcases len2 ht.1 hn with rfl | ⟨a, rfl⟩ | ⟨a, b, rfl⟩
        all_goals
          repeat walk_at "k00g"
          refine' st_ret (Ev.is ?h ?e) k
          case h => walk_at "k00e"
          case e => rfl
      · rcases one2 ht.1 with rfl | rfl
        all_goals
          rcases len2 ht.1 hn with rfl | ⟨a, rfl⟩ | ⟨a, b, rfl⟩
          all_goals
            first
            | (exfalso; simp at hn; done)
            | (repeat walk_at "k00g"
               refine' st_ret (Ev.is ?h ?e) k
               case h => walk_at "k00e"
               case e => rfl)
    | _ => exact hs.elim
  | _ => cases ti
theorem ok_on_set (F : FnP K "on_set" 18 f fd) (B : Bt mg) : FnOk P w K mg base CX0 1 f fd ["state", "call"] (Pr relSet) := by
  refine F.ok sc_on_set (fun vs H Q E h => pr_len (fun as c r => by obtain ⟨t, s, l, _, _, _, _, rfl, _⟩ := r; rfl) h) (fun cdv A outer s H vs Q E hr h => ⟨_, PSs.nox (pss_cons (ps_set (i := 2) sc_on_set.nd rfl (Or.inl rfl) (pe_cmpR op_in_seq (pe_ix ix_tup (pv 1) pe_int (fun _ _ => rfl)) (pv 0) (by rfl)))
      (pss_cons (ps_if (pt_cmpR op_eq (pe_ix ix_tup (pv 1) pe_int (fun _ _ => rfl)) pe_str (nomark _)) (pss_one (ps_ret (pe_tup (pa_cons (pv 0) (pa_cons (pv 2) pa_nil))))) pss_nil)
      (pss_cons (ps_if (pt_cmpR op_eq (pe_ix ix_tup (pv 1) pe_int (fun _ _ => rfl)) pe_str (nomark _)) (pss_one (ps_ret (pe_ifExp (pt_val (pv 2)) (pe_tup (pa_cons (pv 0) (pa_cons pe_bl pa_nil))) (pe_tup (pa_cons (k_tuple B.tuple rfl (pa_cons (k_sorted hr B.sorted rfl (pa_cons (pe_lst (StX.pa_star (pv 0) (pa_cons (pe_ix ix_tup (pv 1) pe_int (fun _ _ => rfl)) pa_nil))) pa_nil)) pa_nil)) (pa_cons pe_bl pa_nil)))))) pss_nil)
      (pss_one (ps_ret (pe_tup (pa_cons (k_tuple B.tuple rfl (pa_cons (pe_lc (own := [("one", 3)]) (g := gName 3) rfl sc_on_set.nd (pi_tup (pv 0)) (blkOk_by (own := [("one", 3)]) (N := ["state", "call", "is_in", "one"]) (sc := defScope (stm 18)) (by decide +kernel)) (fun _ _ _ _ _ => pg_name (i := 3) sc_on_set.nd rfl (Or.inl rfl)) (fun _ _ _ _ _ => pts_one (pt_cmpR ((op_neD hr.units) : OpR _ _ (rNeD K)) (pv 3) (pe_ix (ix_tup : IxR _ (rIxT K)) (pv 1) pe_int (fun _ _ => rfl)) (nomark _))) (fun _ _ _ _ _ => (pv 3))) pa_nil)) (pa_cons (pv 2) pa_nil)))))))), pr_start h fun as c D r ok k => ?_⟩)
  obtain ⟨t, s, l, ti, ht, hs, hl, rfl, rfl⟩ := r
  cases t with
  | set m =>
    cases s with
    | seq ns =>
      have hs : ns ∈ subs m := hs
      have hb := sub_bound ht hs
      have sh : ∀ y : Int, SeqAt.shaped (.int y) = true := fun _ => rfl
      rcases hl with ⟨x, hx, rfl | rfl | rfl⟩
      · refine' q_asgF (d := .bool (ns.contains x)) ?in0 ?nx0
        case in0 => exact ev_inI (neg := false) (ws := ns) (by walk_at "k00e") (by walk_at "k00f") (.inr (.inr rfl))
        repeat walk_at "k00g"
        cases hc : ns.contains x with
        | true =>
          refine' st_ret (Ev.is ?h ?e) k
          case h => exact ev_ifT (et_B (ev_dat rfl)) rfl (by walk_at "k00e")
          case e =>
            show _ = AR.f (.tuple [(if ns.contains x = true then (Sta.seq ns, PyData.bool false) else (.seq (ins x ns), .bool true)).1.d, (if ns.contains x = true then (Sta.seq ns, PyData.bool false) else (.seq (ins x ns), .bool true)).2])
            rw [if_pos hc]
            rfl
        | false =>
          have so := sub_sort ht hs hx hc
          refine' st_ret (Ev.is ?h ?e) k
          case h => 
            refine ev_ifF (et_B (ev_dat rfl)) rfl (ev_tup (as := [.f (.tuple ((ins x ns).map .int)), .f (.bool true)]) (eva_cons (ev_tupOf (ds := (ins x ns).map .int) (a := .l ((ins x ns).map .int)) (Ev.is (ev_sort (ds := (ns ++ [x]).map .int) (a := .l ((ns ++ [x]).map .int)) (Ev.is (ev_lst (as := (ns.map .int).map .f ++ [.f (.int x)]) (eva_star (by walk_at "k00e") (eva_cons (by walk_at "k00e") eva_nil)) (by rw [allF_app]; rfl) (by simp; omega)) ?u1) (.inl rfl) so.alike so.sortable so.len so.dep) ?u2) (.inl rfl)) (eva_cons ev_bl eva_nil)) rfl (by show 2 ≤ 100000; decide))
            case u1 =>
              rw [fzs_app, List.map_append]
              rfl
            case u2 => rw [so.eq]
          case e =>
            show _ = AR.f (.tuple [(if ns.contains x = true then (Sta.seq ns, PyData.bool false) else (.seq (ins x ns), .bool true)).1.d, (if ns.contains x = true then (Sta.seq ns, PyData.bool false) else (.seq (ins x ns), .bool true)).2])
            rw [if_neg (by rw [hc]; decide)]
            rfl
      · refine' q_asgF (d := .bool (ns.contains x)) ?in0 ?nx1
        case in0 => exact ev_inI (neg := false) (ws := ns) (by walk_at "k00e") (by walk_at "k00f") (.inr (.inr rfl))
        repeat walk_at "k00g"
        have fe : ((ns.map PyData.int).filter fun d => !PyData.eqv d (.int x)).map id = (ns.filter fun y => !decide (y = x)).map .int := by
          rw [List.map_id, List.filter_map]
          rfl
        refine' st_ret (Ev.is ?h ?e) k
        case h => exact ev_tup (as := [.f (.tuple ((ns.filter fun y => !decide (y = x)).map .int)), .f (.bool (ns.contains x))]) (eva_cons (ev_tupOf (ds := (ns.filter fun y => !decide (y = x)).map .int) (a := .l ((ns.filter fun y => !decide (y = x)).map .int)) (Ev.is (ev_lc (src := ns.map .int) (fun d => !PyData.eqv d (.int x)) id (evi_tup (by walk_at "k00f")) (by decide) (by simp; omega) (fun d hd => by
          obtain ⟨y, _, rfl⟩ := List.mem_map.mp hd
          exact et_test (ev_neD (d := .int y) (e := .int x) (by walk_at "k00e") (by walk_at "k00e") rfl rfl rfl rfl)) fun d _ _ => by walk_at "k00f") (by rw [fe])) (.inl rfl)) (eva_cons (by walk_at "k00e") eva_nil)) rfl (by show 2 ≤ 100000; decide)
        case e => rfl
      · refine' q_asgF (d := .bool (ns.contains x)) ?in0 ?nx2
        case in0 => exact ev_inI (neg := false) (ws := ns) (by walk_at "k00e") (by walk_at "k00f") (.inr (.inr rfl))
        repeat walk_at "k00g"
        refine' st_ret (Ev.is ?h ?e) k
        case h => walk_at "k00e"
        case e => rfl
    | _ => exact hs.elim
  | _ => cases ti
theorem ok_on_bank (F : FnP K "on_bank" 19 f fd) (B : Bt mg) : FnOk P w K mg base CX0 1 f fd ["state", "call"] (Pr relBankS) := by
  refine F.ok sc_on_bank (fun vs H Q E h => pr_len (fun as c r => by obtain ⟨t, s, l, _, _, _, _, rfl, _⟩ := r; rfl) h) (fun cdv A outer s H vs Q E hr h => ⟨_, PSs.nox (pss_cons (ps_if (pt_cmpR op_eq (pe_ix ix_tup (pv 1) pe_int (fun _ _ => rfl)) pe_str (nomark _)) (pss_one (ps_ret (pe_tup (pa_cons (pv 0) (pa_cons (pe_ix ix_tup (pv 0) (pe_ix ix_tup (pv 1) pe_int (fun _ _ => rfl)) (fun _ _ => rfl)) pa_nil))))) pss_nil)
      (pss_cons (ps_par3 (i := 3) (j := 4) (l := 5) rfl sc_on_bank.nd rfl rfl rfl (by decide) (by decide) (by decide) rfl rfl rfl (pa_cons (pe_ix ix_tup (pv 1) pe_int (fun _ _ => rfl)) (pa_cons (pe_ix ix_tup (pv 1) pe_int (fun _ _ => rfl)) (pa_cons (pe_ix ix_tup (pv 1) pe_int (fun _ _ => rfl)) pa_nil))) (by rfl))
      (pss_cons (ps_if (pt_cmpR op_lt (pe_ix ix_tup (pv 0) (pv 3) (fun _ _ => rfl)) (pv 5) (nomark _)) (pss_one (ps_ret (pe_tup (pa_cons (pv 0) (pa_cons pe_bl pa_nil))))) pss_nil)
      (pss_cons (ps_set (i := 2) sc_on_bank.nd rfl (Or.inl rfl) (k_list B.list rfl (pa_cons (pv 0) pa_nil)))
      (pss_cons (ps_asg (pe_op op_sub (pe_ix ix_list (pv 2) (pv 3) (fun _ _ => rfl)) (pv 5)) (pg_sub (pv 2) (pv 3) set_list))
      (pss_cons (ps_asg (pe_op op_add (pe_ix ix_list (pv 2) (pv 4) (fun _ _ => rfl)) (pv 5)) (pg_sub (pv 2) (pv 4) set_list))
      (pss_one (ps_ret (pe_tup (pa_cons (k_tuple B.tuple rfl (pa_cons (pv 2) pa_nil)) (pa_cons pe_bl pa_nil))))))))))), pr_start h fun as c D r ok k => ?_⟩)
  obtain ⟨t, s, l, ti, ht, hs, hl, rfl, rfl⟩ := r
  cases t with
  | bank bs =>
    cases s with
    | seq ns =>
      have hln := hs.1
      have hl2 : ns.length = 2 ∨ ns.length = 3 := by rw [hln]; exact ht.1
      rcases hl with ⟨x, hx, rfl⟩ | ⟨a, b, x, ha, hb, hab, hx, rfl⟩
      · rw [← hln] at hx
        rcases two_or hl2 with ⟨u, v, rfl⟩ | ⟨u, v, y, rfl⟩
        · simp only [List.length_cons, List.length_nil] at hx
          rcases (by omega : x = 0 ∨ x = 1) with rfl | rfl
          all_goals
            repeat walk_at "k00g"
            refine' st_ret (Ev.is ?h ?e) k
            case h => walk_at "k00e"
            case e => rfl
        · simp only [List.length_cons, List.length_nil] at hx
          rcases (by omega : x = 0 ∨ x = 1 ∨ x = 2) with rfl | rfl | rfl
          all_goals
            repeat walk_at "k00g"
            refine' st_ret (Ev.is ?h ?e) k
            case h => walk_at "k00e"
            case e => rfl
      · rw [← hln] at ha hb
        by_cases hlt : ns.getD a.toNat 0 < x
        · have st : (Th.bank bs).step (.seq ns) ⟨"move", [a, b, x]⟩ = (.seq ns, .bool false) := if_pos hlt
          have kk := k.eq (D' := D) (c' := .f (.tuple [(Sta.seq ns).d, .bool false])) (by unfold Th.stepD; rw [st]) rfl
          rcases two_or hl2 with ⟨u, v, rfl⟩ | ⟨u, v, y, rfl⟩
          · simp only [List.length_cons, List.length_nil] at ha
            rcases (by omega : a = 0 ∨ a = 1) with rfl | rfl
            all_goals
              repeat walk_at "k00g"
              refine' q_guardT (b := true) (EvT.is ?g ?d) rfl (st_ret (Ev.is ?h ?e) kk)
              case g => walk_at "k00t"
              case d => exact decide_eq_true hlt
              case h => walk_at "k00e"
              case e => rfl
          · simp only [List.length_cons, List.length_nil] at ha
            rcases (by omega : a = 0 ∨ a = 1 ∨ a = 2) with rfl | rfl | rfl
            all_goals
              repeat walk_at "k00g"
              refine' q_guardT (b := true) (EvT.is ?g ?d) rfl (st_ret (Ev.is ?h ?e) kk)
              case g => walk_at "k00t"
              case d => exact decide_eq_true hlt
              case h => walk_at "k00e"
              case e => rfl
        · have st : (Th.bank bs).step (.seq ns) ⟨"move", [a, b, x]⟩ = (.seq ((ns.set a.toNat (ns.getD a.toNat 0 - x)).set b.toNat ((ns.set a.toNat (ns.getD a.toNat 0 - x)).getD b.toNat 0 + x)), .bool true) := if_neg hlt
          have kk := k.eq (D' := D) (c' := .f (.tuple [(Sta.seq ((ns.set a.toNat (ns.getD a.toNat 0 - x)).set b.toNat ((ns.set a.toNat (ns.getD a.toNat 0 - x)).getD b.toNat 0 + x))).d, .bool true])) (by unfold Th.stepD; rw [st]) rfl
          rcases two_or hl2 with ⟨u, v, rfl⟩ | ⟨u, v, y, rfl⟩
          · simp only [List.length_cons, List.length_nil] at ha hb
            rcases (by omega : (a = 0 ∧ b = 1) ∨ (a = 1 ∧ b = 0)) with ⟨rfl, rfl⟩ | ⟨rfl, rfl⟩
            all_goals
              repeat walk_at "k00g"
              refine' q_guardF (b := false) (EvT.is ?g ?d) rfl ?nn
              case g => walk_at "k00t"
              case d => exact decide_eq_false hlt
              case nn =>
                refine' q_asgL (ev_lstOf (by walk_at "k00f")) fun p => ?mm
                case mm =>
                  refine' q_setL rfl (by intro q hq d z; subst z; simp [List.set, startE, AR.arg] at hq) ?s1 ?s2 ?s3 ?s4
                  case s1 => walk_at "k00e"
                  case s2 => walk_at "k00e"
                  case s3 => rfl
                  case s4 =>
                    refine' q_setL rfl (by intro q hq d z; subst z; simp [List.set, startE, AR.arg] at hq) ?s1 ?s2 ?s3 ?s4
                    case s1 => walk_at "k00e"
                    case s2 => walk_at "k00e"
                    case s3 => rfl
                    case s4 =>
                      refine' st_ret (Ev.is ?h ?e) kk
                      case h => walk_at "k00e"
                      case e => rfl
          · simp only [List.length_cons, List.length_nil] at ha hb
            rcases (by omega : (a = 0 ∧ b = 1) ∨ (a = 0 ∧ b = 2) ∨ (a = 1 ∧ b = 0) ∨ (a = 1 ∧ b = 2) ∨ (a = 2 ∧ b = 0) ∨ (a = 2 ∧ b = 1)) with ⟨rfl, rfl⟩ | ⟨rfl, rfl⟩ | ⟨rfl, rfl⟩ | ⟨rfl, rfl⟩ | ⟨rfl, rfl⟩ | ⟨rfl, rfl⟩
            all_goals
              repeat walk_at "k00g"
              refine' q_guardF (b := false) (EvT.is ?g ?d) rfl ?nn
              case g => walk_at "k00t"
              case d => exact decide_eq_false hlt
              case nn =>
                refine' q_asgL (ev_lstOf (by walk_at "k00f")) fun p => ?mm
                case mm =>
                  refine' q_setL rfl (by intro q hq d z; subst z; simp [List.set, startE, AR.arg] at hq) ?s1 ?s2 ?s3 ?s4
                  case s1 => walk_at "k00e"
                  case s2 => walk_at "k00e"
                  case s3 => rfl
                  case s4 =>
                    refine' q_setL rfl (by intro q hq d z; subst z; simp [List.set, startE, AR.arg] at hq) ?s1 ?s2 ?s3 ?s4
                    case s1 => walk_at "k00e"
                    case s2 => walk_at "k00e"
                    case s3 => rfl
                    case s4 =>
                      refine' st_ret (Ev.is ?h ?e) kk
                      case h => walk_at "k00e"
                      case e => rfl
    | _ => exact hs.elim
  | _ => cases ti
section
variable {W : Wd} {H0 : Hp} {ta : TA} {E : List AV} {Ex : XK} {t : Th} {s : Sta} {l : Cal}
theorem ev_stack (h : EvA W H0 ta E [.f t.d, .f s.d, .f l.d]) (ti : isStack t = true) (ht : t.ok) (hs : t.okS s) (hl : t.okC l) : Ev W H0 (tCall (Pr relStack) [] Ex ta) E (.f (t.stepD s l)) := ev_call h (.cons coe_rfl (.cons coe_rfl (.cons coe_rfl .nil))) ⟨t, s, l, ti, ht, hs, hl, rfl, rfl⟩ trivial
theorem ev_queue (h : EvA W H0 ta E [.f t.d, .f s.d, .f l.d]) (ti : isQueue t = true) (ht : t.ok) (hs : t.okS s) (hl : t.okC l) : Ev W H0 (tCall (Pr relQueue) [] Ex ta) E (.f (t.stepD s l)) := ev_call h (.cons coe_rfl (.cons coe_rfl (.cons coe_rfl .nil))) ⟨t, s, l, ti, ht, hs, hl, rfl, rfl⟩ trivial
theorem ev_set (h : EvA W H0 ta E [.f s.d, .f l.d]) (ti : isSet t = true) (ht : t.ok) (hs : t.okS s) (hl : t.okC l) : Ev W H0 (tCall (Pr relSet) [] Ex ta) E (.f (t.stepD s l)) := ev_call h (.cons coe_rfl (.cons coe_rfl .nil)) ⟨t, s, l, ti, ht, hs, hl, rfl, rfl⟩ trivial
theorem ev_bankS (h : EvA W H0 ta E [.f s.d, .f l.d]) (ti : isBank t = true) (ht : t.ok) (hs : t.okS s) (hl : t.okC l) : Ev W H0 (tCall (Pr relBankS) [] Ex ta) E (.f (t.stepD s l)) := ev_call h (.cons coe_rfl (.cons coe_rfl .nil)) ⟨t, s, l, ti, ht, hs, hl, rfl, rfl⟩ trivial
theorem ev_step (h : EvA W H0 ta E [.f t.d, .f s.d, .f l.d]) (ht : t.ok) (hs : t.okS s) (hl : t.okC l) : Ev W H0 (tCall (Pr relStep) [] Ex ta) E (.f (t.stepD s l)) := ev_call h (.cons coe_rfl (.cons coe_rfl (.cons coe_rfl .nil))) ⟨t, s, l, ht, hs, hl, rfl, rfl⟩ trivial
end
theorem at_rows {rows : List (List (Int × Int))} {s : Int} (h : 0 ≤ s ∧ s < (rows.length : Int)) : atI (rows.map rowP) s = some (rowP (rows.getD s.toNat [])) := by
  have e : ((s.toNat : Nat) : Int) = s := by omega
  rw [← e]
  refine atI_nat ?_
  have hlt : s.toNat < rows.length := by omega
  rw [List.getElem?_map, Int.toNat_natCast, List.getElem?_eq_getElem hlt, List.getD_eq_getElem?_getD, List.getElem?_eq_getElem hlt]
  rfl
theorem at_pairs {r : List (Int × Int)} {s : Int} (h : 0 ≤ s ∧ s < (r.length : Int)) : atI (r.map pairP) s = some (pairP (r.getD s.toNat (0, 0))) := by
  have e : ((s.toNat : Nat) : Int) = s := by omega
  rw [← e]
  refine atI_nat ?_
  have hlt : s.toNat < r.length := by omega
  rw [List.getElem?_map, Int.toNat_natCast, List.getElem?_eq_getElem hlt, List.getD_eq_getElem?_getD, List.getElem?_eq_getElem hlt]
  rfl
theorem row_at {rows : List (List (Int × Int))} {s x : Int} (h : Th.ok (.table rows)) (hs : 0 ≤ s ∧ s < (rows.length : Int)) (hx : 0 ≤ x ∧ x < ((rows.headD []).length : Int)) : 0 ≤ x ∧ x < ((rows.getD s.toNat []).length : Int) := by
  obtain ⟨⟨h1, h2⟩, w, ⟨w1, w2⟩, hr⟩ := h
  have e : (rows.headD []).length = w := by
    cases rows with
    | nil => simp at h1
    | cons r t => exact (hr r List.mem_cons_self).1
  have q := (hr _ (getD_mem (l := rows) (i := s.toNat) [] (by omega))).1
  omega
theorem ok_applied_in {f1 f2 f3 f4 : Addr} {fd1 fd2 fd3 fd4 : FuncData} (F : FnP K "applied_in" 15 f fd) (B : Bt mg)
    (G_on_stack : FnOk P w K mg base CX0 1 f1 fd1 ["thing", "state", "call"] (Pr relStack)) (N_on_stack : Kn K mg "on_stack" ["thing", "state", "call"] f1 fd1) (G_on_queue : FnOk P w K mg base CX0 1 f2 fd2 ["thing", "state", "call"] (Pr relQueue)) (N_on_queue : Kn K mg "on_queue" ["thing", "state", "call"] f2 fd2)
    (G_on_set : FnOk P w K mg base CX0 1 f3 fd3 ["state", "call"] (Pr relSet)) (N_on_set : Kn K mg "on_set" ["state", "call"] f3 fd3) (G_on_bank : FnOk P w K mg base CX0 1 f4 fd4 ["state", "call"] (Pr relBankS)) (N_on_bank : Kn K mg "on_bank" ["state", "call"] f4 fd4) :
    FnOk P w K mg base CX0 2 f fd ["thing", "state", "call"] (Pr relStep) := by
  refine F.ok sc_applied_in (fun vs H Q E h => pr_len (fun as c r => by obtain ⟨t, s, l, _, _, _, rfl, _⟩ := r; rfl) h) (fun cdv A outer s H vs Q E hr h => ⟨_, PSs.nox (pss_cons (ps_set (i := 3) sc_applied_in.nd rfl (Or.inl rfl) (pe_ix ix_tup (pv 0) pe_int (fun _ _ => rfl)))
      (pss_cons (ps_if (pt_cmpR op_eq (pv 3) pe_str (nomark _)) (pss_one (ps_ret (pe_ifExp (pt_cmpR op_eq (pe_ix ix_tup (pv 2) pe_int (fun _ _ => rfl)) pe_str (nomark _)) (pe_tup (pa_cons (pv 1) (pa_cons (pv 1) pa_nil))) (pe_tup (pa_cons (pe_op op_mod (pe_op op_add (pv 1) (pe_ix ix_tup (pv 2) pe_int (fun _ _ => rfl))) (pe_ix ix_tup (pv 0) pe_int (fun _ _ => rfl))) (pa_cons (pv 1) pa_nil)))))) pss_nil)
      (pss_cons (ps_if (pt_cmpR op_eq (pv 3) pe_str (nomark _)) (pss_one (ps_ret (pe_ifExp (pt_cmpR op_eq (pe_ix ix_tup (pv 2) pe_int (fun _ _ => rfl)) pe_str (nomark _)) (pe_tup (pa_cons (pv 1) (pa_cons (pv 1) pa_nil))) (pe_tup (pa_cons (pe_ix ix_tup (pv 2) pe_int (fun _ _ => rfl)) (pa_cons (pe_ifExp (pt_cmpR op_eq (pe_ix ix_tup (pv 2) pe_int (fun _ _ => rfl)) pe_str (nomark _)) (pv 1) pe_non) pa_nil)))))) pss_nil)
      (pss_cons (ps_if (pt_cmpR op_eq (pv 3) pe_str (nomark _)) (pss_one (ps_ret (k_call G_on_stack N_on_stack hr (by decide) rfl (pa_cons (pv 0) (pa_cons (pv 1) (pa_cons (pv 2) pa_nil)))))) pss_nil)
      (pss_cons (ps_if (pt_cmpR op_eq (pv 3) pe_str (nomark _)) (pss_one (ps_ret (k_call G_on_queue N_on_queue hr (by decide) rfl (pa_cons (pv 0) (pa_cons (pv 1) (pa_cons (pv 2) pa_nil)))))) pss_nil)
      (pss_cons (ps_if (pt_cmpR op_eq (pv 3) pe_str (nomark _)) (pss_one (ps_ret (k_call G_on_set N_on_set hr (by decide) rfl (pa_cons (pv 1) (pa_cons (pv 2) pa_nil))))) pss_nil)
      (pss_cons (ps_if (pt_cmpR op_eq (pv 3) pe_str (nomark _)) (pss_one (ps_ret (pe_ifExp (pt_cmpR op_isZ (pv 1) pe_non (nomark _)) (pe_tup (pa_cons (pe_ix ix_tup (pv 2) pe_int (fun _ _ => rfl)) (pa_cons (pe_ix ix_tup (pv 2) pe_int (fun _ _ => rfl)) pa_nil))) (pe_tup (pa_cons (pv 1) (pa_cons (pv 1) pa_nil)))))) pss_nil)
      (pss_cons (ps_if (pt_cmpR op_eq (pv 3) pe_str (nomark _)) (pss_one (ps_ret (k_call G_on_bank N_on_bank hr (by decide) rfl (pa_cons (pv 1) (pa_cons (pv 2) pa_nil))))) pss_nil)
      (pss_one (ps_ret (pe_ix ix_tup (pe_ix ix_tup (pe_ix ix_tup (pv 0) pe_int (fun _ _ => rfl)) (pv 1) (fun _ _ => rfl)) (pe_ix ix_tup (pv 2) pe_int (fun _ _ => rfl)) (fun _ _ => rfl)))))))))))), pr_start h fun as c D r ok k => ?_⟩)
  obtain ⟨t, s, l, ht, hs, hl, rfl, rfl⟩ := r
  cases t with
  | counter m =>
    have hm : 0 < m := by have := ht.1; omega
    cases s with
    | num s =>
      rcases hl with rfl | ⟨x, hx, rfl⟩
      · repeat walk_at "k00g"
        refine' st_ret (Ev.is ?h ?e) k
        case h => walk_at "k00e"
        case e => rfl
      · repeat walk_at "k00g"
        refine' st_ret (Ev.is ?h ?e) k
        case h => walk_at "k00e"
        case e => rfl
    | _ => exact hs.elim
  | register m =>
    cases s with
    | num s =>
      rcases hl with rfl | ⟨x, hx, rfl | rfl⟩
      · repeat walk_at "k00g"
        refine' st_ret (Ev.is ?h ?e) k
        case h => walk_at "k00e"
        case e => rfl
      · repeat walk_at "k00g"
        refine' st_ret (Ev.is ?h ?e) k
        case h => walk_at "k00e"
        case e => rfl
      · repeat walk_at "k00g"
        refine' st_ret (Ev.is ?h ?e) k
        case h => walk_at "k00e"
        case e => rfl
    | _ => exact hs.elim
  | stack r m =>
    repeat walk_at "k00g"
    exact st_ret (ev_stack (by walk_at "k00a") rfl ht hs hl) k
  | queue r m =>
    repeat walk_at "k00g"
    exact st_ret (ev_queue (by walk_at "k00a") rfl ht hs hl) k
  | set m =>
    repeat walk_at "k00g"
    exact st_ret (ev_set (by walk_at "k00a") rfl ht hs hl) k
  | agree m =>
    obtain ⟨x, hx, rfl⟩ := hl
    cases s with
    | non =>
      repeat walk_at "k00g"
      refine' st_ret (Ev.is ?h ?e) k
      case h => walk_at "k00e"
      case e => rfl
    | num s =>
      repeat walk_at "k00g"
      refine' st_ret (Ev.is ?h ?e) k
      case h => walk_at "k00e"
      case e => rfl
    | seq ns => exact hs.elim
  | bank bs =>
    repeat walk_at "k00g"
    exact st_ret (ev_bankS (by walk_at "k00a") rfl ht hs hl) k
  | table rows =>
    obtain ⟨x, hx, rfl⟩ := hl
    cases s with
    | num s =>
      have i1 := at_rows hs
      have i2 := at_pairs (row_at ht hs hx)
      repeat walk_at "k00g"
      refine' st_ret (Ev.is ?h ?e) k
      case h => walk_at "k00e"
      case e => rfl
    | _ => exact hs.elim
end
end K00

/-! Part E. -/
set_option Elab.async false
set_option linter.all false
set_option autoImplicit false
set_option maxRecDepth 100000
set_option maxHeartbeats 4000000
/-! The states that come; what raises. -/
namespace K00
open PySem PySem.Spec PyProof.Rows L2
local macro_rules | `(tactic| walk_at "k00a") => `(tactic| first
  | (with_reducible exact eva_nil)
  | ((with_reducible refine' eva_cons ?k1 ?k2); (case k1 => walk_at "k00e"); (case k2 => walk_at "k00a"))
  | ((with_reducible refine' eva_star ?k1 ?k2); (case k1 => walk_at "k00e"); (case k2 => walk_at "k00a")))
local macro_rules | `(tactic| walk_at "k00o") => `(tactic| first
  | (with_reducible exact evo_no)
  | ((with_reducible refine' evo_some ?k1); (case k1 => walk_at "k00e")))
local macro_rules | `(tactic| walk_at "k00e") => `(tactic| first
  | (with_reducible exact ev_int)
  | (with_reducible exact ev_str)
  | (with_reducible exact ev_bl)
  | (with_reducible exact ev_non)
  | ((with_reducible refine' ev_dat ?k1); (case k1 => rfl))
  | ((with_reducible refine' ev_own ?k1); (case k1 => rfl))
  | ((with_reducible refine' ev_argF ?k1 ?k2); (case k1 => rfl); (case k2 => rfl))
  | ((with_reducible refine' ev_arg ?k1); (case k1 => rfl))
  | ((with_reducible refine' ev_genF ?k1 ?k2); (case k1 => rfl); (case k2 => rfl))
  | ((with_reducible refine' ev_gen ?k1); (case k1 => rfl))
  | ((with_reducible refine' ev_raw ?k1); (case k1 => rfl))
  | ((with_reducible refine' ev_ixT ?k1 ?k2 ?k3); (case k1 => walk_at "k00e"); (case k2 => walk_at "k00e"); (case k3 => walk_at "k00i"))
  | ((with_reducible refine' ev_ixL ?k1 ?k2 ?k4 ?k3); (case k1 => walk_at "k00e"); (case k2 => walk_at "k00e"); (case k4 => first | exact Or.inl rfl | exact Or.inr rfl); (case k3 => walk_at "k00i"))
  | ((with_reducible refine' ev_isInt ?k1 ?k2); (case k1 => walk_at "k00e"); (case k2 => rfl))
  | ((with_reducible refine' ev_isBool ?k1 ?k2); (case k1 => walk_at "k00e"); (case k2 => rfl))
  | ((with_reducible refine' ev_isStr ?k1 ?k2); (case k1 => walk_at "k00e"); (case k2 => rfl))
  | ((with_reducible refine' ev_isTup ?k1 ?k2); (case k1 => walk_at "k00e"); (case k2 => rfl))
  | ((with_reducible refine' ev_isLst ?k1 ?k2); (case k1 => walk_at "k00e"); (case k2 => rfl))
  | ((with_reducible refine' ev_isSeq ?k1 ?k2); (case k1 => walk_at "k00e"); (case k2 => rfl))
  | ((with_reducible refine' ev_lenB ?k1 ?k2); (case k1 => walk_at "k00e"); (case k2 => first | exact Or.inl rfl | exact Or.inr rfl))
  | ((with_reducible refine' ev_int2 ?k1 ?k2); (case k1 => walk_at "k00e"); (case k2 => walk_at "k00e"))
  | ((with_reducible refine' ev_cmp2 ?k1 ?k2); (case k1 => walk_at "k00e"); (case k2 => walk_at "k00e"))
  | ((with_reducible refine' ev_intC ?k1 ?k2 ?k3); (case k1 => walk_at "k00e"); (case k2 => walk_at "k00e"); (case k3 => walk_at "k00c"))
  | ((with_reducible refine' ev_eqS ?k1 ?k2); (case k1 => walk_at "k00e"); (case k2 => walk_at "k00e"))
  | ((with_reducible refine' ev_eqI ?k1 ?k2); (case k1 => walk_at "k00e"); (case k2 => walk_at "k00e"))
  | ((with_reducible refine' ev_neI ?k1 ?k2); (case k1 => walk_at "k00e"); (case k2 => walk_at "k00e"))
  | ((with_reducible refine' ev_eqB ?k1 ?k2); (case k1 => walk_at "k00e"); (case k2 => walk_at "k00e"))
  | ((with_reducible refine' ev_neB ?k1 ?k2); (case k1 => walk_at "k00e"); (case k2 => walk_at "k00e"))
  | ((with_reducible refine' ev_eqD ?k1 ?k2 ?k3 ?k4 ?k5 ?k6); (case k1 => walk_at "k00e"); (case k2 => walk_at "k00e"); (case k3 => rfl); (case k4 => rfl); (case k5 => walk_at "k00s"); (case k6 => walk_at "k00s"))
  | ((with_reducible refine' ev_neD ?k1 ?k2 ?k3 ?k4 ?k5 ?k6); (case k1 => walk_at "k00e"); (case k2 => walk_at "k00e"); (case k3 => rfl); (case k4 => rfl); (case k5 => walk_at "k00s"); (case k6 => walk_at "k00s"))
  | ((with_reducible refine' ev_inD ?k1 ?k2 ?k3 ?k4 ?k5 ?k6); (case k1 => walk_at "k00e"); (case k2 => walk_at "k00e"); (case k3 => rfl); (case k4 => rfl); (case k5 => walk_at "k00s"); (case k6 => walk_at "k00s"))
  | ((with_reducible refine' ev_niD ?k1 ?k2 ?k3 ?k4 ?k5 ?k6); (case k1 => walk_at "k00e"); (case k2 => walk_at "k00e"); (case k3 => rfl); (case k4 => rfl); (case k5 => walk_at "k00s"); (case k6 => walk_at "k00s"))
  | ((with_reducible refine' ev_isNone ?k1 ?k2); (case k1 => walk_at "k00e"); (case k2 => rfl))
  | ((with_reducible refine' ev_notNone ?k1 ?k2); (case k1 => walk_at "k00e"); (case k2 => rfl))
  | ((with_reducible refine' ev_neg ?k1); (case k1 => walk_at "k00e"))
  | ((with_reducible refine' ev_tup ?k1 ?k2 ?k3); (case k1 => walk_at "k00a"); (case k2 => first | rfl | exact allF_app _ _); (case k3 => walk_at "k00l"))
  | ((with_reducible refine' ev_lst ?k1 ?k2 ?k3); (case k1 => walk_at "k00a"); (case k2 => first | rfl | exact allF_app _ _); (case k3 => walk_at "k00l"))
  | ((with_reducible refine' ev_slT ?k1 ?k2 ?k3); (case k1 => walk_at "k00e"); (case k2 => walk_at "k00o"); (case k3 => walk_at "k00o"))
  | ((with_reducible refine' ev_catT ?k1 ?k2 ?k3); (case k1 => walk_at "k00e"); (case k2 => walk_at "k00e"); (case k3 => walk_at "k00l"))
  | ((with_reducible refine' ev_cat ?k1 ?k2 ?k4 ?k5 ?k3); (case k1 => walk_at "k00e"); (case k2 => walk_at "k00e"); (case k4 => first | exact Or.inl rfl | exact Or.inr rfl); (case k5 => first | exact Or.inl rfl | exact Or.inr rfl); (case k3 => walk_at "k00l"))
  | ((with_reducible refine' ev_tupOf ?k1 ?k2); (case k1 => walk_at "k00e"); (case k2 => first | exact Or.inl rfl | exact Or.inr rfl))
  | ((with_reducible refine' ev_lstOf ?k1); (case k1 => walk_at "k00e"))
  | ((with_reducible refine' ev_intI ?k1); (case k1 => walk_at "k00e"))
  | ((with_reducible refine' ev_intB ?k1); (case k1 => walk_at "k00e"))
  | ((with_reducible refine' ev_and0 ?k1 ?k2); (case k1 => walk_at "k00e"); (case k2 => first | rfl | assumption))
  | ((with_reducible refine' ev_or1 ?k1 ?k2); (case k1 => walk_at "k00e"); (case k2 => first | rfl | assumption))
  | ((with_reducible refine' ev_ifT ?k1 ?k2 ?k3); (case k1 => walk_at "k00t"); (case k2 => first | rfl | assumption); (case k3 => walk_at "k00e"))
  | ((with_reducible refine' ev_ifF ?k1 ?k2 ?k3); (case k1 => walk_at "k00t"); (case k2 => first | rfl | assumption); (case k3 => walk_at "k00e"))
  | ((with_reducible refine' ev_andV ?k1 ?k2); (case k1 => walk_at "k00e"); (case k2 => intro hb; walk_at "k00e"))
  | ((with_reducible refine' ev_orV ?k1 ?k2); (case k1 => walk_at "k00e"); (case k2 => intro hb; walk_at "k00e"))
  | ((with_reducible refine' ev_notV ?k1); (case k1 => walk_at "k00e"))
  | ((with_reducible refine' ev_chain ?k1 ?k2 ?k3); (case k1 => walk_at "k00e"); (case k2 => walk_at "k00e"); (case k3 => walk_at "k00e"))
  | ((with_reducible refine' ev_inT ?k1 ?k2 ?k3 ?k4); (case k1 => walk_at "k00e"); (case k2 => walk_at "k00e"); (case k3 => walk_at "k00w"); (case k4 => rfl))
  | ((with_reducible refine' ev_inN ?k1 ?k2 ?k3 ?k4); (case k1 => walk_at "k00e"); (case k2 => walk_at "k00e"); (case k3 => walk_at "k00w"); (case k4 => rfl))
  | ((with_reducible refine' ev_inI ?k1 ?k2 ?k3); (case k1 => walk_at "k00e"); (case k2 => walk_at "k00e"); (case k3 => exact Or.inr (Or.inr rfl)))
  | ((with_reducible refine' ev_lcW ?k1 ?k2 ?k3 ?k4); (case k1 => walk_at "k00n"); (case k2 => decide); (case k3 => walk_at "k00x"); (case k4 => first | decide | exact of_decide_eq_true rfl))
  | walk_at "k00r"
  | (with_reducible exact ev_c))
local macro_rules | `(tactic| walk_at "k00k") => `(tactic| first
  | exact Coes.nil
  | ((refine' Coes.cons ?k1 ?k2); (case k1 => first | exact coe_rfl | exact coe_b rfl); (case k2 => walk_at "k00k")))
local macro_rules | `(tactic| walk_at "k00i") => `(tactic| first | rfl | assumption)
local macro_rules | `(tactic| walk_at "k00c") => `(tactic| first | trivial | decide | omega | assumption)
local macro_rules | `(tactic| walk_at "k00l") => `(tactic| first | decide | (simp; done) | (simp; omega) | omega | assumption | (simp [rangeR_len2, fzs]; done) | (simp [rangeR_len2, fzs]; omega))
local macro_rules | `(tactic| walk_at "k00s") => `(tactic| first | rfl | decide +kernel | assumption | exact Sh.shaped (by assumption))
local macro_rules | `(tactic| walk_at "k00t") => `(tactic| first
  | ((with_reducible refine' et_test ?k1); (case k1 => walk_at "k00e"))
  | ((with_reducible refine' et_B ?k1); (case k1 => walk_at "k00e"))
  | ((with_reducible refine' et_not ?k1); (case k1 => walk_at "k00t"))
  | ((with_reducible refine' et_and0 ?k1 ?k2); (case k1 => walk_at "k00t"); (case k2 => first | rfl | assumption))
  | ((with_reducible refine' et_or1 ?k1 ?k2); (case k1 => walk_at "k00t"); (case k2 => first | rfl | assumption))
  | ((with_reducible refine' et_and ?k1 ?k2); (case k1 => walk_at "k00t"); (case k2 => intro hb; walk_at "k00t"))
  | ((with_reducible refine' et_or ?k1 ?k2); (case k1 => walk_at "k00t"); (case k2 => intro hb; walk_at "k00t"))
  | (with_reducible exact et_yes))

local macro_rules | `(tactic| walk_at "k00n") => `(tactic| first
  | ((with_reducible refine' evi_rng1 ?k1 ?k2); (case k1 => walk_at "k00e"); (case k2 => walk_at "k00y"))
  | ((with_reducible refine' evi_rng2 ?k1 ?k2 ?k3); (case k1 => walk_at "k00e"); (case k2 => walk_at "k00e"); (case k3 => walk_at "k00y"))
  | ((with_reducible refine' evi_tup ?k1); (case k1 => walk_at "k00e"))
  | ((with_reducible refine' evi_lst ?k1 ?k2); (case k1 => walk_at "k00e"); (case k2 => first | exact Or.inl rfl | exact Or.inr rfl)))
local macro_rules | `(tactic| walk_at "k00y") => `(tactic| first | decide | omega | (simp; omega) | assumption)
local macro_rules | `(tactic| walk_at "k00x") => `(tactic| first | decide | assumption | (rw [rangeR_iv, List.length_map]; unfold iv; rw [List.length_map, List.length_range]; omega))
local macro_rules | `(tactic| walk_at "k00w") => `(tactic| first | exact Or.inr (Or.inr rfl) | exact Or.inl rfl | exact Or.inr (Or.inl rfl))
local macro_rules | `(tactic| walk_at "k00b") => `(tactic| first | decide +kernel | rfl | assumption | (simp; done))
local macro_rules | `(tactic| walk_at "k00g") => `(tactic| first
  | ((with_reducible refine' q_asgF ?k1 ?k2); (case k1 => walk_at "k00e"))
  | ((with_reducible refine' q_guardF ?k1 ?k2 ?k3); (case k1 => walk_at "k00t"); (case k2 => walk_at "k00b"))
  | ((with_reducible refine' q_guardT ?k1 ?k2 ?k3); (case k1 => walk_at "k00t"); (case k2 => walk_at "k00b"))
  | ((with_reducible refine' q_two ?k1 ?k2); (case k1 => walk_at "k00e"))
  | ((with_reducible refine' q_par ?k1 ?k2); (case k1 => walk_at "k00a"))
  | ((with_reducible refine' q_par3 ?k1 ?k2); (case k1 => walk_at "k00a")))
local macro_rules | `(tactic| walk_at "k00f") => `(tactic| ((refine' Ev.is ?k1 ?k2); (case k1 => walk_at "k00e"); (case k2 => rfl)))
local macro_rules | `(tactic| walk_at "k00r") => `(tactic| first
  | ((with_reducible refine' ev_small ?k1 ?k2); (case k1 => walk_at "k00a"); (case k2 => rfl))
  | ((with_reducible refine' ev_bank ?k1); (case k1 => walk_at "k00a"))
  | ((with_reducible refine' ev_table ?k1); (case k1 => walk_at "k00a")))
theorem Sta.sh (s : Sta) : Sh 2 s.d := by
  cases s with
  | non => exact Sh.none
  | num k => exact Sh.int k
  | seq ns => exact (ShAll.ints ns).tup
theorem stas_sh (f : List Sta) : Sh 3 (.list (f.map Sta.d)) := (ShAll.of fun d hd => by
  obtain ⟨s, _, rfl⟩ := List.mem_map.mp hd
  exact s.sh).lst
def relStates (as : List AR) (c : AR) : Prop := ∃ t : Th, t.ok ∧ as = [.f t.d] ∧ c = .l (t.states.map Sta.d)
/-- an exception class of the module -/
structure Ze (K : PySem.W.Frag) (mg : Str → Option Value) (x : Str) (C : Addr) : Prop where
  q : PySem.W.excIn K C [.type "ValueError", .type "Exception", .type "BaseException", .type "object"] "ValueError.__new__" = true
  k : PySem.W.keepIn K (.ref C) = true
  b : PySem.W.subIn K (.ref C) (.type "BaseException") = some true
  t : PySem.W.typeIn K (.ref C) = some (.type "type")
  g : mg x = some (.ref C)
section
variable {W : Wd} {H0 : Hp} {ta : TA} {E : List AV} {Ex : XK} {t : Th}
theorem ev_first (h : EvA W H0 ta E [.f t.d]) (ht : t.ok) : Ev W H0 (tCall (Pr relFirst) [] Ex ta) E (.f t.first.d) := ev_call h (.cons coe_rfl .nil) ⟨t, ht, rfl, rfl⟩ trivial
theorem ev_calls (h : EvA W H0 ta E [.f t.d]) (ht : t.ok) : Ev W H0 (tCall (Pr relCalls) [] Ex ta) E (.l (t.callsU.map Cal.d)) := ev_call h (.cons coe_rfl .nil) ⟨t, ht, rfl, rfl⟩ trivial
theorem ev_states (h : EvA W H0 ta E [.f t.d]) (ht : t.ok) : Ev W H0 (tCall (Pr relStates) [] Ex ta) E (.l (t.states.map Sta.d)) := ev_call h (.cons coe_rfl .nil) ⟨t, ht, rfl, rfl⟩ trivial
theorem ev_kind {a : AR} {d : PyData} (h : EvA W H0 ta E [a]) (ha : a = .f d ∨ ((∃ ds, a.d = some (.list ds)) ∧ a.d = some d)) : Ev W H0 (tCall (Pr relKind) [] Ex ta) E (.f (.bool (kindD d))) := by
  rcases ha with rfl | ⟨⟨ds, e⟩, e2⟩
  · exact ev_call h (.cons coe_rfl .nil) ⟨_, d, rfl, .inl rfl, rfl⟩ trivial
  · rw [e] at e2
    cases e2
    exact ev_call h (.cons (coe_b e) .nil) ⟨_, _, rfl, .inr ⟨ds, rfl, rfl⟩, rfl⟩ trivial
end
theorem snoc_take {α : Type} {l : List α} {i : Nat} {d : α} (h : l[i]? = some d) : l.take (i + 1) = l.take i ++ [d] := take_snoc h
theorem turn_snoc (t : Th) (s : Sta) (f : List Sta) (cs : List Cal) (c : Cal) : t.turn s f (cs ++ [c]) = addNew (t.turn s f cs) (t.step s c).1 := by
  unfold Th.turn
  rw [List.foldl_append]
  rfl
theorem addNew_map (f : List Sta) (s : Sta) : (addNew f s).map Sta.d = if f.contains s = true then f.map Sta.d else f.map Sta.d ++ [s.d] := by
  unfold addNew
  split <;> simp
theorem bfs_end {t : Th} {n : Nat} {f : List Sta} {i : Nat} (h : f[i]? = none) : t.bfs n f i = f := by
  cases n with
  | zero => rfl
  | succ n =>
    unfold Th.bfs
    rw [h]
theorem bfs_go {t : Th} {n : Nat} {f : List Sta} {i : Nat} {s : Sta} (h : f[i]? = some s) : t.bfs (n + 1) f i = t.bfs n (t.turn s f t.calls) (i + 1) := by
  rw [Th.bfs, h]
section
variable {P : Program} {w : World} {K : PySem.W.Frag} {mg : Str → Option Value} {base : Heap} {f : Addr} {fd : FuncData}
theorem sc_states_of : FnScope ["thing", "found", "at", "names", "call", "there"] ["thing"] (defScope (stm 29)) := ⟨rfl, rfl, rfl, by decide +kernel, rfl, by decide +kernel, by decide +kernel⟩
theorem ok_states_of {f1 f2 f3 : Addr} {fd1 fd2 fd3 : FuncData} (F : FnP K "states_of" 29 f fd) (B : Bt mg)
    (G_first_in : FnOk P w K mg base CX0 1 f1 fd1 ["thing"] (Pr relFirst)) (N_first_in : Kn K mg "first_in" ["thing"] f1 fd1) (G_calls_in : FnOk P w K mg base CX0 2 f2 fd2 ["thing"] (Pr relCalls)) (N_calls_in : Kn K mg "calls_in" ["thing"] f2 fd2)
    (G_applied_in : FnOk P w K mg base CX0 2 f3 fd3 ["thing", "state", "call"] (Pr relStep)) (N_applied_in : Kn K mg "applied_in" ["thing", "state", "call"] f3 fd3) : FnOk P w K mg base CX0 3 f fd ["thing"] (Pr relStates) := by
  refine F.ok sc_states_of (fun vs H Q E h => pr_len (fun as c r => by obtain ⟨t, _, rfl, _⟩ := r; rfl) h) (fun cdv A outer s H vs Q E hr h => ⟨_, PSs.nox (pss_cons (ps_par3 (i := 1) (j := 2) (l := 3) rfl sc_states_of.nd rfl rfl rfl (by decide) (by decide) (by decide) rfl rfl rfl (pa_cons (pe_lst (pa_cons (k_call G_first_in N_first_in hr (by decide) rfl (pa_cons (pv 0) pa_nil)) pa_nil)) (pa_cons pe_int (pa_cons (k_sorted hr B.sorted rfl (pa_cons (k_call G_calls_in N_calls_in hr (by decide) rfl (pa_cons (pv 0) pa_nil)) pa_nil)) pa_nil))) (by rfl))
      (pss_cons (ps_while PassesOwn.never (pt_cmpR op_lt (pv 2) (k_len B.len rfl (pa_cons (pv 1) pa_nil)) (nomark _)) (pss_cons (ps_for PassesOwn.never rfl (pi_list (pv 3)) (pg_name (i := 4) sc_states_of.nd rfl (Or.inl rfl)) (pss_cons (ps_set (i := 5) sc_states_of.nd rfl (Or.inl rfl) (pe_ix ix_tup (k_call G_applied_in N_applied_in hr (by decide) rfl (pa_cons (pv 0) (pa_cons (pe_ix ix_list (pv 1) (pv 2) (fun _ _ => rfl)) (pa_cons (pv 4) pa_nil)))) pe_int (fun _ _ => rfl)))
      (pss_one (ps_if (pt_cmpR (op_notInD (room65 hr)) (pv 5) (pv 1) (by rfl)) (pss_one (ps_expr (pe_bm PySem.F.plainAttrs_list PySem.F.slot_list_append PySem.F.type_list_append mt_append (pv 1) (pa_cons (pv 5) pa_nil)))) pss_nil))))
      (pss_one (ps_set (i := 2) sc_states_of.nd rfl (Or.inl rfl) (pe_op op_add (pv 2) pe_int)))))
      (pss_one (ps_ret (pv 1))))), pr_start h fun as c D r ok k => ?_⟩)
  obtain ⟨t, ht, rfl, rfl⟩ := r
  have so := Th.sortU ht
  refine' q_parOwn3 (ds := [t.first.d]) (es := t.calls.map Cal.d) (d := .int 0) ?a1 ?a2 ?a3 (by decide) (by decide) (by decide) fun p q => ?nx0
  case a1 => exact ev_lst (as := [.f t.first.d]) (eva_cons (ev_first (by walk_at "k00a") ht) eva_nil) rfl (by show 1 ≤ 100000; decide)
  case a2 => exact ev_int
  case a3 => exact Ev.is (ev_sort (ev_calls (by walk_at "k00a") ht) (.inl rfl) so.alike so.sortable so.len so.dep) (by rw [so.eq])
  refine' q_while (fun m E' => ∃ (f : List Sta) (i : Nat), m = 5000 - i ∧ t.Inv f ∧ t.bfs (5000 - i) f i = t.states ∧ E' = [.dat t.d, .own p (f.map Sta.d), .dat (.int (i : Int)), .own q (t.calls.map Cal.d), .no, .no]) 5000 ⟨[t.first], 0, rfl, Th.inv0 ht, rfl, rfl⟩ fun m E' g => ?nx1
  obtain ⟨f, i, rfl, inv, bf, rfl⟩ := g
  have hlen := inv.len ht
  refine ⟨decide ((i : Int) < ((f.map Sta.d).length : Int)), et_test (ev_cmp2 (ev_dat rfl) (ev_lenB (ev_own rfl) (.inl rfl))), fun hb => ?_, fun hb => ?_⟩
  · have hi : i < f.length := by
      have := of_decide_eq_true hb
      rw [List.length_map] at this
      omega
    have hs : f[i]? = some f[i] := List.getElem?_eq_getElem hi
    have hsm : f[i] ∈ f := List.getElem_mem hi
    generalize f[i] = s at hs hsm
    have hok := inv.ok s hsm
    refine' q_forOwn (fun n E' => ∃ g, g = t.turn s f (t.calls.take n) ∧ t.Inv g ∧ E' = [.dat t.d, .own p (g.map Sta.d), .dat (.int (i : Int)), .own q (t.calls.map Cal.d), .no, .no]) (fun n E' z => by obtain ⟨g, _, _, rfl⟩ := z; rfl) ⟨f, rfl, inv, rfl⟩ (fun n d E' hd z => ?turn) fun E' z => ?done
    case done =>
      obtain ⟨g, hg, ginv, rfl⟩ := z
      rw [List.length_map, List.take_length] at hg
      refine' st_asgF (d := .int ((i : Int) + 1)) (by walk_at "k00e") fun σ H S => ?fin
      refine ⟨5000 - (i + 1), _, by omega, ⟨g, i + 1, rfl, ginv, ?_, rfl⟩, S.wk ?_⟩
      · rw [← bf, show 5000 - i = (5000 - (i + 1)) + 1 by omega, bfs_go hs, hg]
      · exact .same (.same (.same (.same (.no (.no .nil)))))
    case turn =>
      obtain ⟨g, hg, ginv, rfl⟩ := z
      obtain ⟨c, hc, rfl⟩ : ∃ c, t.calls[n]? = some c ∧ d = c.d := by
        rw [List.getElem?_map] at hd
        obtain ⟨c, e1, e2⟩ := Option.map_eq_some_iff.mp hd
        exact ⟨c, e1, e2.symm⟩
      have hcm : c ∈ t.calls := List.mem_of_getElem? hc
      have gi : (g.map Sta.d)[i]? = some s.d := by
        have pre : f <+: g := by rw [hg]; exact turn_pre t s _ f
        obtain ⟨r, e⟩ := pre
        rw [List.getElem?_map, ← e, List.getElem?_append_left hi, hs]
        rfl
      have gI : atI (g.map Sta.d) (i : Int) = some s.d := atI_nat gi
      have glen := ginv.len ht
      refine' q_asgF (d := (t.step s c).1.d) ?b1 ?nx2
      case b1 => exact ev_ixT (ds := [(t.step s c).1.d, (t.step s c).2]) (ev_step (t := t) (s := s) (l := c) (eva_cons (ev_dat rfl) (eva_cons (ev_ixL (ev_own rfl) (ev_dat rfl) (.inr rfl) gI) (eva_cons (ev_dat rfl) eva_nil))) ht hok (Th.okC_of hcm)) ev_int rfl
      have eq : (!(g.map Sta.d).any fun z => PyData.eqv z (t.step s c).1.d) = !g.contains (t.step s c).1 := by rw [any_eqv]
      have gn : t.turn s f (t.calls.take (n + 1)) = addNew g (t.step s c).1 := by rw [take_snoc hc, turn_snoc, ← hg]
      refine' st_if (EvT.is (et_test (ev_niD (ev_dat rfl) (ev_own rfl) rfl rfl (Sta.sh _).shaped (stas_sh g).shaped)) eq) (fun hb2 => ?yes) fun hb2 => ?no
      case yes =>
        refine' st_append rfl (by intro a ha d z; subst z; simp [List.set] at ha) (ev_dat rfl) (by rw [List.length_map]; omega) fun σ H S => ?fin2
        refine ⟨_, ⟨addNew g (t.step s c).1, gn.symm, ginv.add (Th.step_ok ht hok hcm), rfl⟩, ?_⟩
        rw [addNew_map, if_neg (by intro z; rw [z] at hb2; cases hb2)]
        exact S.wk (.same (.same (.same (.same (.no (.no .nil))))))
      case no =>
        refine' st_next fun σ H S => ?fin3
        refine ⟨_, ⟨addNew g (t.step s c).1, gn.symm, ginv.add (Th.step_ok ht hok hcm), rfl⟩, ?_⟩
        rw [addNew_map, if_pos (by simpa using hb2)]
        exact S.wk (.same (.same (.same (.same (.no (.no .nil))))))
  · have hi : f.length ≤ i := by
      have := of_decide_eq_false hb
      rw [List.length_map] at this
      omega
    have e : f = t.states := by rw [← bf, bfs_end (List.getElem?_eq_none hi)]
    exact st_retOwn rfl (k.eq (by rw [e]) rfl)
end
end K00

/-! Part F. -/
set_option Elab.async false
set_option linter.all false
set_option autoImplicit false
set_option maxRecDepth 100000
set_option maxHeartbeats 4000000
/-! The calls of the package's face, those that raise too. -/
namespace K00
open PySem PySem.Spec PyProof.Rows L2
local macro_rules | `(tactic| walk_at "k00a") => `(tactic| first
  | (with_reducible exact eva_nil)
  | ((with_reducible refine' eva_cons ?k1 ?k2); (case k1 => walk_at "k00e"); (case k2 => walk_at "k00a"))
  | ((with_reducible refine' eva_star ?k1 ?k2); (case k1 => walk_at "k00e"); (case k2 => walk_at "k00a")))
local macro_rules | `(tactic| walk_at "k00o") => `(tactic| first
  | (with_reducible exact evo_no)
  | ((with_reducible refine' evo_some ?k1); (case k1 => walk_at "k00e")))
local macro_rules | `(tactic| walk_at "k00e") => `(tactic| first
  | (with_reducible exact ev_int)
  | (with_reducible exact ev_str)
  | (with_reducible exact ev_bl)
  | (with_reducible exact ev_non)
  | ((with_reducible refine' ev_dat ?k1); (case k1 => rfl))
  | ((with_reducible refine' ev_own ?k1); (case k1 => rfl))
  | ((with_reducible refine' ev_argF ?k1 ?k2); (case k1 => rfl); (case k2 => rfl))
  | ((with_reducible refine' ev_arg ?k1); (case k1 => rfl))
  | ((with_reducible refine' ev_genF ?k1 ?k2); (case k1 => rfl); (case k2 => rfl))
  | ((with_reducible refine' ev_gen ?k1); (case k1 => rfl))
  | ((with_reducible refine' ev_raw ?k1); (case k1 => rfl))
  | ((with_reducible refine' ev_ixT ?k1 ?k2 ?k3); (case k1 => walk_at "k00e"); (case k2 => walk_at "k00e"); (case k3 => walk_at "k00i"))
  | ((with_reducible refine' ev_ixL ?k1 ?k2 ?k4 ?k3); (case k1 => walk_at "k00e"); (case k2 => walk_at "k00e"); (case k4 => first | exact Or.inl rfl | exact Or.inr rfl); (case k3 => walk_at "k00i"))
  | ((with_reducible refine' ev_isInt ?k1 ?k2); (case k1 => walk_at "k00e"); (case k2 => rfl))
  | ((with_reducible refine' ev_isBool ?k1 ?k2); (case k1 => walk_at "k00e"); (case k2 => rfl))
  | ((with_reducible refine' ev_isStr ?k1 ?k2); (case k1 => walk_at "k00e"); (case k2 => rfl))
  | ((with_reducible refine' ev_isTup ?k1 ?k2); (case k1 => walk_at "k00e"); (case k2 => rfl))
  | ((with_reducible refine' ev_isLst ?k1 ?k2); (case k1 => walk_at "k00e"); (case k2 => rfl))
  | ((with_reducible refine' ev_isSeq ?k1 ?k2); (case k1 => walk_at "k00e"); (case k2 => rfl))
  | ((with_reducible refine' ev_lenB ?k1 ?k2); (case k1 => walk_at "k00e"); (case k2 => first | exact Or.inl rfl | exact Or.inr rfl))
  | ((with_reducible refine' ev_int2 ?k1 ?k2); (case k1 => walk_at "k00e"); (case k2 => walk_at "k00e"))
  | ((with_reducible refine' ev_cmp2 ?k1 ?k2); (case k1 => walk_at "k00e"); (case k2 => walk_at "k00e"))
  | ((with_reducible refine' ev_intC ?k1 ?k2 ?k3); (case k1 => walk_at "k00e"); (case k2 => walk_at "k00e"); (case k3 => walk_at "k00c"))
  | ((with_reducible refine' ev_eqS ?k1 ?k2); (case k1 => walk_at "k00e"); (case k2 => walk_at "k00e"))
  | ((with_reducible refine' ev_eqI ?k1 ?k2); (case k1 => walk_at "k00e"); (case k2 => walk_at "k00e"))
  | ((with_reducible refine' ev_neI ?k1 ?k2); (case k1 => walk_at "k00e"); (case k2 => walk_at "k00e"))
  | ((with_reducible refine' ev_eqB ?k1 ?k2); (case k1 => walk_at "k00e"); (case k2 => walk_at "k00e"))
  | ((with_reducible refine' ev_neB ?k1 ?k2); (case k1 => walk_at "k00e"); (case k2 => walk_at "k00e"))
  | ((with_reducible refine' ev_eqD ?k1 ?k2 ?k3 ?k4 ?k5 ?k6); (case k1 => walk_at "k00e"); (case k2 => walk_at "k00e"); (case k3 => rfl); (case k4 => rfl); (case k5 => walk_at "k00s"); (case k6 => walk_at "k00s"))
  | ((with_reducible refine' ev_neD ?k1 ?k2 ?k3 ?k4 ?k5 ?k6); (case k1 => walk_at "k00e"); (case k2 => walk_at "k00e"); (case k3 => rfl); (case k4 => rfl); (case k5 => walk_at "k00s"); (case k6 => walk_at "k00s"))
  | ((with_reducible refine' ev_inD ?k1 ?k2 ?k3 ?k4 ?k5 ?k6); (case k1 => walk_at "k00e"); (case k2 => walk_at "k00e"); (case k3 => rfl); (case k4 => rfl); (case k5 => walk_at "k00s"); (case k6 => walk_at "k00s"))
  | ((with_reducible refine' ev_niD ?k1 ?k2 ?k3 ?k4 ?k5 ?k6); (case k1 => walk_at "k00e"); (case k2 => walk_at "k00e"); (case k3 => rfl); (case k4 => rfl); (case k5 => walk_at "k00s"); (case k6 => walk_at "k00s"))
  | ((with_reducible refine' ev_isNone ?k1 ?k2); (case k1 => walk_at "k00e"); (case k2 => rfl))
  | ((with_reducible refine' ev_notNone ?k1 ?k2); (case k1 => walk_at "k00e"); (case k2 => rfl))
  | ((with_reducible refine' ev_neg ?k1); (case k1 => walk_at "k00e"))
  | ((with_reducible refine' ev_tup ?k1 ?k2 ?k3); (case k1 => walk_at "k00a"); (case k2 => first | rfl | exact allF_app _ _); (case k3 => walk_at "k00l"))
  | ((with_reducible refine' ev_lst ?k1 ?k2 ?k3); (case k1 => walk_at "k00a"); (case k2 => first | rfl | exact allF_app _ _); (case k3 => walk_at "k00l"))
  | ((with_reducible refine' ev_slT ?k1 ?k2 ?k3); (case k1 => walk_at "k00e"); (case k2 => walk_at "k00o"); (case k3 => walk_at "k00o"))
  | ((with_reducible refine' ev_catT ?k1 ?k2 ?k3); (case k1 => walk_at "k00e"); (case k2 => walk_at "k00e"); (case k3 => walk_at "k00l"))
  | ((with_reducible refine' ev_cat ?k1 ?k2 ?k4 ?k5 ?k3); (case k1 => walk_at "k00e"); (case k2 => walk_at "k00e"); (case k4 => first | exact Or.inl rfl | exact Or.inr rfl); (case k5 => first | exact Or.inl rfl | exact Or.inr rfl); (case k3 => walk_at "k00l"))
  | ((with_reducible refine' ev_tupOf ?k1 ?k2); (case k1 => walk_at "k00e"); (case k2 => first | exact Or.inl rfl | exact Or.inr rfl))
  | ((with_reducible refine' ev_lstOf ?k1); (case k1 => walk_at "k00e"))
  | ((with_reducible refine' ev_intI ?k1); (case k1 => walk_at "k00e"))
  | ((with_reducible refine' ev_intB ?k1); (case k1 => walk_at "k00e"))
  | ((with_reducible refine' ev_and0 ?k1 ?k2); (case k1 => walk_at "k00e"); (case k2 => first | rfl | assumption))
  | ((with_reducible refine' ev_or1 ?k1 ?k2); (case k1 => walk_at "k00e"); (case k2 => first | rfl | assumption))
  | ((with_reducible refine' ev_ifT ?k1 ?k2 ?k3); (case k1 => walk_at "k00t"); (case k2 => first | rfl | assumption); (case k3 => walk_at "k00e"))
  | ((with_reducible refine' ev_ifF ?k1 ?k2 ?k3); (case k1 => walk_at "k00t"); (case k2 => first | rfl | assumption); (case k3 => walk_at "k00e"))
  | ((with_reducible refine' ev_andV ?k1 ?k2); (case k1 => walk_at "k00e"); (case k2 => intro hb; walk_at "k00e"))
  | ((with_reducible refine' ev_orV ?k1 ?k2); (case k1 => walk_at "k00e"); (case k2 => intro hb; walk_at "k00e"))
  | ((with_reducible refine' ev_notV ?k1); (case k1 => walk_at "k00e"))
  | ((with_reducible refine' ev_chain ?k1 ?k2 ?k3); (case k1 => walk_at "k00e"); (case k2 => walk_at "k00e"); (case k3 => walk_at "k00e"))
  | ((with_reducible refine' ev_inT ?k1 ?k2 ?k3 ?k4); (case k1 => walk_at "k00e"); (case k2 => walk_at "k00e"); (case k3 => walk_at "k00w"); (case k4 => rfl))
  | ((with_reducible refine' ev_inN ?k1 ?k2 ?k3 ?k4); (case k1 => walk_at "k00e"); (case k2 => walk_at "k00e"); (case k3 => walk_at "k00w"); (case k4 => rfl))
  | ((with_reducible refine' ev_inI ?k1 ?k2 ?k3); (case k1 => walk_at "k00e"); (case k2 => walk_at "k00e"); (case k3 => exact Or.inr (Or.inr rfl)))
  | ((with_reducible refine' ev_lcW ?k1 ?k2 ?k3 ?k4); (case k1 => walk_at "k00n"); (case k2 => decide); (case k3 => walk_at "k00x"); (case k4 => first | decide | exact of_decide_eq_true rfl))
  | walk_at "k00r"
  | (with_reducible exact ev_c))
local macro_rules | `(tactic| walk_at "k00k") => `(tactic| first
  | exact Coes.nil
  | ((refine' Coes.cons ?k1 ?k2); (case k1 => first | exact coe_rfl | exact coe_b rfl); (case k2 => walk_at "k00k")))
local macro_rules | `(tactic| walk_at "k00i") => `(tactic| first | rfl | assumption)
local macro_rules | `(tactic| walk_at "k00c") => `(tactic| first | trivial | decide | omega | assumption)
local macro_rules | `(tactic| walk_at "k00l") => `(tactic| first | decide | (simp; done) | (simp; omega) | omega | assumption | (simp [rangeR_len2, fzs]; done) | (simp [rangeR_len2, fzs]; omega))
local macro_rules | `(tactic| walk_at "k00s") => `(tactic| first | rfl | decide +kernel | assumption | exact Sh.shaped (by assumption))
local macro_rules | `(tactic| walk_at "k00t") => `(tactic| first
  | ((with_reducible refine' et_test ?k1); (case k1 => walk_at "k00e"))
  | ((with_reducible refine' et_B ?k1); (case k1 => walk_at "k00e"))
  | ((with_reducible refine' et_not ?k1); (case k1 => walk_at "k00t"))
  | ((with_reducible refine' et_and0 ?k1 ?k2); (case k1 => walk_at "k00t"); (case k2 => first | rfl | assumption))
  | ((with_reducible refine' et_or1 ?k1 ?k2); (case k1 => walk_at "k00t"); (case k2 => first | rfl | assumption))
  | ((with_reducible refine' et_and ?k1 ?k2); (case k1 => walk_at "k00t"); (case k2 => intro hb; walk_at "k00t"))
  | ((with_reducible refine' et_or ?k1 ?k2); (case k1 => walk_at "k00t"); (case k2 => intro hb; walk_at "k00t"))
  | (with_reducible exact et_yes))

local macro_rules | `(tactic| walk_at "k00n") => `(tactic| first
  | ((with_reducible refine' evi_rng1 ?k1 ?k2); (case k1 => walk_at "k00e"); (case k2 => walk_at "k00y"))
  | ((with_reducible refine' evi_rng2 ?k1 ?k2 ?k3); (case k1 => walk_at "k00e"); (case k2 => walk_at "k00e"); (case k3 => walk_at "k00y"))
  | ((with_reducible refine' evi_tup ?k1); (case k1 => walk_at "k00e"))
  | ((with_reducible refine' evi_lst ?k1 ?k2); (case k1 => walk_at "k00e"); (case k2 => first | exact Or.inl rfl | exact Or.inr rfl)))
local macro_rules | `(tactic| walk_at "k00y") => `(tactic| first | decide | omega | (simp; omega) | assumption)
local macro_rules | `(tactic| walk_at "k00x") => `(tactic| first | decide | assumption | (rw [rangeR_iv, List.length_map]; unfold iv; rw [List.length_map, List.length_range]; omega))
local macro_rules | `(tactic| walk_at "k00w") => `(tactic| first | exact Or.inr (Or.inr rfl) | exact Or.inl rfl | exact Or.inr (Or.inl rfl))
local macro_rules | `(tactic| walk_at "k00b") => `(tactic| first | decide +kernel | rfl | assumption | (simp; done))
local macro_rules | `(tactic| walk_at "k00g") => `(tactic| first
  | ((with_reducible refine' q_asgF ?k1 ?k2); (case k1 => walk_at "k00e"))
  | ((with_reducible refine' q_guardF ?k1 ?k2 ?k3); (case k1 => walk_at "k00t"); (case k2 => walk_at "k00b"))
  | ((with_reducible refine' q_guardT ?k1 ?k2 ?k3); (case k1 => walk_at "k00t"); (case k2 => walk_at "k00b"))
  | ((with_reducible refine' q_two ?k1 ?k2); (case k1 => walk_at "k00e"))
  | ((with_reducible refine' q_par ?k1 ?k2); (case k1 => walk_at "k00a"))
  | ((with_reducible refine' q_par3 ?k1 ?k2); (case k1 => walk_at "k00a")))
local macro_rules | `(tactic| walk_at "k00f") => `(tactic| ((refine' Ev.is ?k1 ?k2); (case k1 => walk_at "k00e"); (case k2 => rfl)))
local macro_rules | `(tactic| walk_at "k00r") => `(tactic| first
  | ((with_reducible refine' ev_small ?k1 ?k2); (case k1 => walk_at "k00a"); (case k2 => rfl))
  | ((with_reducible refine' ev_bank ?k1); (case k1 => walk_at "k00a"))
  | ((with_reducible refine' ev_table ?k1); (case k1 => walk_at "k00a")))
/-- a raise -/
def tRaise (C : Addr) (E : XK) : TS := fun _ σ H => E (.ref C) none H
section
variable {W : Wd} {H0 : Hp} {D : Ends} {E : List AV} {tz ts tw : TS} {t : TT} {te : TE}
theorem st_raise {C : Addr} {Ex : XK} (z : ∀ H', Nx W H0 H' → Ex (.ref C) none H') : Go W H0 (fun _ σ H => (fun (_ : L2.St) (H : Hp) (Q : XK) => Q (.ref C) none H) σ H fun cls d H' => (fun cls d (_ : L2.St) H => Ex cls d H) cls d σ H') D E := fun σ H S => z H S.nx
theorem q_raise {C : Addr} {Ex : XK} (z : ∀ H', Nx W H0 H' → Ex (.ref C) none H') : Go W H0 (tSeq (fun _ σ H => (fun (_ : L2.St) (H : Hp) (Q : XK) => Q (.ref C) none H) σ H fun cls d H' => (fun cls d (_ : L2.St) H => Ex cls d H) cls d σ H') tz) D E := fun σ H S => z H S.nx
theorem st_dropX {Z : Hp → Prop} (h : EvX W H0 te E Z) (z : ∀ H', Nx W H0 H' → Z H') : Go W H0 (tDrop te) D E := fun σ H S => h σ H S (fun H' n => z H' (S.nx.trans n)) _
theorem q_dropX {Z : Hp → Prop} (h : EvX W H0 te E Z) (z : ∀ H', Nx W H0 H' → Z H') : Go W H0 (tSeq (tDrop te) tz) D E := go_seq (st_dropX h z)
theorem st_retX {Z : Hp → Prop} (h : EvX W H0 te E Z) (z : ∀ H', Nx W H0 H' → Z H') : Go W H0 (tRet te) D E := fun σ H S => h σ H S (fun H' n => z H' (S.nx.trans n)) _
end
theorem nx_same {H H' : Hp} (n : Nx W0 H H') : Same H H' := n.3
theorem pr_startX {rel : List AR → AR → Prop} {bad : List AR → Addr → Prop} {N : List Str} {vs : List V} {H : Hp} {Q : VK} {E : XK} {t : TS} (h : PrX rel bad vs H Q E)
    (g : ∀ as c (D : Ends), rel as c → okRes c → Ret W0 H D c → (c = .f .none → ∀ σ H', Nx W0 H H' → D.nx σ H') → Go W0 H t D (startE N as))
    (gb : ∀ as C (D : Ends), bad as C → (∀ H', Nx W0 H H' → E (.ref C) none H') → Go W0 H t D (startE N as)) : t { nx := fun _ H' => Q .non H', rt := Q } (L2.start N vs) H := by
  obtain ⟨as, la, ⟨c, r, ok, k⟩ | ⟨C, b, k⟩⟩ := h
  · refine g as c _ r ok (fun v H' n q => k v H' (nx_same n) q) (fun e σ H' n => ?_) _ H (sat_start trivial la)
    subst e
    exact k .non H' (nx_same n) .non
  · exact gb as C _ b (fun H' n => k H' (nx_same n)) _ H (sat_start trivial la)
theorem prX_len {rel : List AR → AR → Prop} {bad : List AR → Addr → Prop} {n : Nat} (h : ∀ as c, rel as c → as.length = n) (h2 : ∀ as c, bad as c → as.length = n) {vs : List V} {H : Hp} {Q : VK} {E : XK} (p : PrX rel bad vs H Q E) : vs.length = n := by
  obtain ⟨as, la, ⟨c, r, ok, k⟩ | ⟨C, b, k⟩⟩ := p
  · rw [la.length]
    exact h as c r
  · rw [la.length]
    exact h2 as C b
/-! what an object is, of those drawn -/
theorem all_int {ns : List Int} {lo hi : Int} (h : ∀ k ∈ ns, lo ≤ k ∧ k ≤ hi) : (ns.map PyData.int).all (fun x => smallD x lo hi) = true := by
  rw [List.all_eq_true]
  intro d hd
  obtain ⟨k, hk, rfl⟩ := List.mem_map.mp hd
  have := h k hk
  simp [smallD, this]
theorem Th.kind {t : Th} (h : t.ok) : kindD t.d = true := by
  cases t with
  | counter m =>
    rcases two4 h with rfl | rfl | rfl <;> decide +kernel
  | register m => rcases two4 h with rfl | rfl | rfl <;> decide +kernel
  | stack r m => rcases one2 h.1 with rfl | rfl <;> rcases one2 h.2 with rfl | rfl <;> decide +kernel
  | queue r m => rcases one2 h.1 with rfl | rfl <;> rcases one2 h.2 with rfl | rfl <;> decide +kernel
  | set m => rcases two3 h with rfl | rfl <;> decide +kernel
  | agree m => rcases two3 h with rfl | rfl <;> decide +kernel
  | bank ns =>
    show bankD (.tuple (ns.map .int)) = true
    have a := all_int h.2
    have b : (decide (2 ≤ ((ns.map PyData.int).length : Int)) && decide (((ns.map PyData.int).length : Int) ≤ 3)) = true := by
      rw [List.length_map]
      have := h.1
      simp
      omega
    simp only [bankD, a, b, Bool.and_true]
  | table rows =>
    show tableD (.tuple (rows.map rowP)) = true
    obtain ⟨⟨h1, h2⟩, w, ⟨w1, w2⟩, hr⟩ := h
    have b : (decide (1 ≤ ((rows.map rowP).length : Int)) && decide (((rows.map rowP).length : Int) ≤ 6)) = true := by
      rw [List.length_map]
      simp
      omega
    have r0 : (rows.map rowP).headD .none = rowP (rows.headD []) := head_map rows h1
    have e0 : (rows.headD []).length = w := by
      cases rows with
      | nil => simp at h1
      | cons r t => exact (hr r List.mem_cons_self).1
    have c : (rows.map rowP).all (rowD (((rows.map rowP).length : Int) - 1) ((rows.map rowP).headD .none)) = true := by
      rw [List.all_eq_true]
      intro d hd
      obtain ⟨r, hr2, rfl⟩ := List.mem_map.mp hd
      obtain ⟨q1, q2⟩ := hr r hr2
      rw [r0]
      have x1 : (decide (1 ≤ ((r.map pairP).length : Int)) && decide (((r.map pairP).length : Int) ≤ 4)) = true := by
        rw [List.length_map]
        simp
        omega
      have x2 : decide (((r.map pairP).length : Int) = (dlen (rowP (rows.headD [])) : Int)) = true := by
        show decide (((r.map pairP).length : Int) = ((((rows.headD []).map pairP).length : Nat) : Int)) = true
        rw [List.length_map, List.length_map, e0, q1]
        simp
      have x3 : (r.map pairP).all (pairD (((rows.map rowP).length : Int) - 1)) = true := by
        rw [List.all_eq_true]
        intro d hd
        obtain ⟨p, hp, rfl⟩ := List.mem_map.mp hd
        have q := q2 p hp
        show (smallD (.int p.1) 0 _ && smallD (.int p.2) 0 9) = true
        rw [List.length_map]
        simp [smallD]
        omega
      show ((decide (1 ≤ ((r.map pairP).length : Int)) && decide (((r.map pairP).length : Int) ≤ 4)) && (isTup (rowP (rows.headD [])) && decide (((r.map pairP).length : Int) = (dlen (rowP (rows.headD [])) : Int))) && (r.map pairP).all (pairD (((rows.map rowP).length : Int) - 1))) = true
      rw [x1, x2, x3]
      rfl
    show ((decide (1 ≤ ((rows.map rowP).length : Int)) && decide (((rows.map rowP).length : Int) ≤ 6)) && (rows.map rowP).all (rowD (((rows.map rowP).length : Int) - 1) ((rows.map rowP).headD .none))) = true
    rw [b, c]
    rfl
/-! relations -/
def relNeed (as : List AR) (c : AR) : Prop := ∃ a d, as = [a] ∧ isArg a d ∧ kindD d = true ∧ c = .f .none
def badObj (CO : Addr) (as : List AR) (C : Addr) : Prop := ∃ a d, as = [a] ∧ isArg a d ∧ kindD d = false ∧ C = CO
def relCallsX (as : List AR) (c : AR) : Prop := ∃ t : Th, t.ok ∧ as = [.f t.d] ∧ c = .f (.tuple (t.calls.map Cal.d))
def relStatesX (as : List AR) (c : AR) : Prop := ∃ t : Th, t.ok ∧ as = [.f t.d] ∧ c = .f (.tuple (t.states.map Sta.d))
section
variable {W : Wd} {H0 : Hp} {ta : TA} {E : List AV} {Ex : XK} {CO : Addr} {a : AR} {d : PyData}
theorem isArg_coe (ha : a = .f d ∨ ((∃ ds, a.d = some (.list ds)) ∧ a.d = some d)) : ∃ b, AR.coe a b ∧ isArg b d := by
  rcases ha with rfl | ⟨⟨ds, e⟩, e2⟩
  · exact ⟨_, coe_rfl, .inl rfl⟩
  · rw [e] at e2
    cases e2
    exact ⟨_, coe_b e, .inr ⟨ds, rfl, rfl⟩⟩
/-- what stands in a slot as an argument -/
def argV (a : AV) (d : PyData) : Prop := a = .dat d ∨ ∃ ds, (a = .arg (.list ds) ∨ a = .gen (.list ds)) ∧ d = .list ds
theorem argV_of {b : AR} (h : isArg b d) : argV b.arg d := by
  rcases h with rfl | ⟨ds, rfl, rfl⟩
  · exact .inl rfl
  · exact .inr ⟨ds, .inl rfl, rfl⟩
theorem ev_argV {i : Nat} {x : AV} (h : E[i]? = some x) (hx : argV x d) : ∃ a, Ev W H0 (tVar i) E a ∧ a.d = some d ∧ (a = .f d ∨ ((∃ ds, a.d = some (.list ds)) ∧ a.d = some d)) := by
  rcases hx with rfl | ⟨ds, rfl | rfl, rfl⟩
  · exact ⟨_, ev_dat h, rfl, .inl rfl⟩
  · exact ⟨_, ev_arg h, rfl, .inr ⟨⟨ds, rfl⟩, rfl⟩⟩
  · exact ⟨_, ev_gen h, rfl, .inr ⟨⟨ds, rfl⟩, rfl⟩⟩
theorem ev_need (h : EvA W H0 ta E [a]) (ha : a = .f d ∨ ((∃ ds, a.d = some (.list ds)) ∧ a.d = some d)) (hk : kindD d = true) : Ev W H0 (tCall (PrX relNeed (badObj CO)) [] Ex ta) E (.f .none) := by
  obtain ⟨b, hb, hi⟩ := isArg_coe ha
  exact ev_callX h (.cons hb .nil) ⟨_, d, rfl, hi, hk, rfl⟩ trivial
theorem evx_need (h : EvA W H0 ta E [a]) (ha : a = .f d ∨ ((∃ ds, a.d = some (.list ds)) ∧ a.d = some d)) (hk : kindD d = false) : EvX W H0 (tCall (PrX relNeed (badObj CO)) [] Ex ta) E (fun H' => Ex (.ref CO) none H') := by
  obtain ⟨b, hb, hi⟩ := isArg_coe ha
  exact evx_call h (.cons hb .nil) ⟨_, d, rfl, hi, hk, rfl⟩
end
section
variable {P : Program} {w : World} {K : PySem.W.Frag} {mg : Str → Option Value} {base : Heap} {f : Addr} {fd : FuncData}
theorem sc_need_object : FnScope ["value"] ["value"] (defScope (stm 21)) := ⟨rfl, rfl, rfl, by decide +kernel, rfl, by decide +kernel, by decide +kernel⟩
theorem sc_is_object : FnScope ["value"] ["value"] (defScope (stm 22)) := ⟨rfl, rfl, rfl, by decide +kernel, rfl, by decide +kernel, by decide +kernel⟩
theorem sc_first_state : FnScope ["thing"] ["thing"] (defScope (stm 23)) := ⟨rfl, rfl, rfl, by decide +kernel, rfl, by decide +kernel, by decide +kernel⟩
theorem sc_calls : FnScope ["thing"] ["thing"] (defScope (stm 24)) := ⟨rfl, rfl, rfl, by decide +kernel, rfl, by decide +kernel, by decide +kernel⟩
theorem sc_states : FnScope ["thing"] ["thing"] (defScope (stm 30)) := ⟨rfl, rfl, rfl, by decide +kernel, rfl, by decide +kernel, by decide +kernel⟩
theorem ok_need_object {f1 : Addr} {fd1 : FuncData} {CO : Addr} (F : FnP K "need_object" 21 f fd) (B : Bt mg) (Z_BadObject : Ze K mg "BadObject" CO) (G_is_kind : FnOk P w K mg base CX0 3 f1 fd1 ["value"] (Pr relKind)) (N_is_kind : Kn K mg "is_kind" ["value"] f1 fd1) :
    FnOk P w K mg base (L2.CX P w) 4 f fd ["value"] (PrX relNeed (badObj CO)) := by
  refine F.ok sc_need_object (fun vs H Q E h => prX_len (fun as c r => by obtain ⟨a, d, rfl, _⟩ := r; rfl) (fun as c r => by obtain ⟨a, d, rfl, _⟩ := r; rfl) h) (fun cdv A outer s H vs Q E hr h => ⟨_, (pss_one (ps_if (pt_not (pt_val (k_call G_is_kind N_is_kind hr (by decide) rfl (pa_cons (pv 0) pa_nil)))) (pss_one (ps_raise rfl (takes_of rfl rfl rfl rfl) (pmk_bare PySem.F.excBase_ValueError Z_BadObject.q Z_BadObject.g Z_BadObject.k (raises_own Z_BadObject.b Z_BadObject.t) rfl))) pss_nil)), pr_startX h (fun as c D r ok k nx => ?_) fun as C D r z => ?_⟩)
  · obtain ⟨a, d, rfl, ha, hk, rfl⟩ := r
    obtain ⟨x, hx, _, hx2⟩ := ev_argV (W := W0) (H0 := H) (E := startE ["value"] [a]) (i := 0) rfl (argV_of ha)
    exact st_if (et_not (et_B (ev_kind (eva_cons hx eva_nil) hx2))) (fun hb => by rw [hk] at hb; cases hb) fun _ => st_next fun σ H' S => nx rfl σ H' S.nx
  · obtain ⟨a, d, rfl, ha, hk, rfl⟩ := r
    obtain ⟨x, hx, _, hx2⟩ := ev_argV (W := W0) (H0 := H) (E := startE ["value"] [a]) (i := 0) rfl (argV_of ha)
    exact st_if (et_not (et_B (ev_kind (eva_cons hx eva_nil) hx2))) (fun _ => st_raise z) fun hb => by rw [hk] at hb; cases hb
theorem ok_is_object {f1 : Addr} {fd1 : FuncData} (F : FnP K "is_object" 22 f fd) (B : Bt mg) (G_is_kind : FnOk P w K mg base CX0 3 f1 fd1 ["value"] (Pr relKind)) (N_is_kind : Kn K mg "is_kind" ["value"] f1 fd1) :
    FnOk P w K mg base CX0 4 f fd ["value"] (Pr relKind) := by
  refine F.ok sc_is_object (fun vs H Q E h => pr_len (fun as c r => by obtain ⟨a, d, rfl, _⟩ := r; rfl) h) (fun cdv A outer s H vs Q E hr h => ⟨_, PSs.nox (pss_one (ps_ret (k_call G_is_kind N_is_kind hr (by decide) rfl (pa_cons (pv 0) pa_nil)))), pr_start h fun as c D r ok k => ?_⟩)
  obtain ⟨a, d, rfl, ha, rfl⟩ := r
  obtain ⟨x, hx, _, hx2⟩ := ev_argV (W := W0) (H0 := H) (E := startE ["value"] [a]) (i := 0) rfl (argV_of ha)
  exact st_ret (ev_kind (eva_cons hx eva_nil) hx2) k
theorem ok_first_state {f1 f2 : Addr} {fd1 fd2 : FuncData} {CO : Addr} (F : FnP K "first_state" 23 f fd) (B : Bt mg) (G_need_object : FnOk P w K mg base (L2.CX P w) 4 f1 fd1 ["value"] (PrX relNeed (badObj CO))) (N_need_object : Kn K mg "need_object" ["value"] f1 fd1)
    (G_first_in : FnOk P w K mg base CX0 1 f2 fd2 ["thing"] (Pr relFirst)) (N_first_in : Kn K mg "first_in" ["thing"] f2 fd2) : FnOk P w K mg base (L2.CX P w) 5 f fd ["thing"] (PrX relFirst (badObj CO)) := by
  refine F.ok sc_first_state (fun vs H Q E h => prX_len (fun as c r => by obtain ⟨t, _, rfl, _⟩ := r; rfl) (fun as c r => by obtain ⟨a, d, rfl, _⟩ := r; rfl) h) (fun cdv A outer s H vs Q E hr h => ⟨_, (pss_cons (ps_expr (k_callX (takes_of rfl rfl rfl rfl) G_need_object N_need_object hr (by decide) rfl (pa_cons (pv 0) pa_nil)))
      (pss_one (ps_ret (k_call G_first_in N_first_in hr (by decide) rfl (pa_cons (pv 0) pa_nil))))), pr_startX h (fun as c D r ok k nx => ?_) fun as C D r z => ?_⟩)
  · obtain ⟨t, ht, rfl, rfl⟩ := r
    exact q_drop (ev_need (eva_cons (ev_dat rfl) eva_nil) (.inl rfl) (Th.kind ht)) (st_ret (ev_first (by walk_at "k00a") ht) k)
  · obtain ⟨a, d, rfl, ha, hk, rfl⟩ := r
    obtain ⟨x, hx, _, hx2⟩ := ev_argV (W := W0) (H0 := H) (E := startE ["thing"] [a]) (i := 0) rfl (argV_of ha)
    exact q_dropX (evx_need (eva_cons hx eva_nil) hx2 hk) z
theorem ok_calls {f1 f2 : Addr} {fd1 fd2 : FuncData} {CO : Addr} (F : FnP K "calls" 24 f fd) (B : Bt mg) (G_need_object : FnOk P w K mg base (L2.CX P w) 4 f1 fd1 ["value"] (PrX relNeed (badObj CO))) (N_need_object : Kn K mg "need_object" ["value"] f1 fd1)
    (G_calls_in : FnOk P w K mg base CX0 2 f2 fd2 ["thing"] (Pr relCalls)) (N_calls_in : Kn K mg "calls_in" ["thing"] f2 fd2) : FnOk P w K mg base (L2.CX P w) 5 f fd ["thing"] (PrX relCallsX (badObj CO)) := by
  refine F.ok sc_calls (fun vs H Q E h => prX_len (fun as c r => by obtain ⟨t, _, rfl, _⟩ := r; rfl) (fun as c r => by obtain ⟨a, d, rfl, _⟩ := r; rfl) h) (fun cdv A outer s H vs Q E hr h => ⟨_, (pss_cons (ps_expr (k_callX (takes_of rfl rfl rfl rfl) G_need_object N_need_object hr (by decide) rfl (pa_cons (pv 0) pa_nil)))
      (pss_one (ps_ret (k_tuple B.tuple rfl (pa_cons (k_sorted hr B.sorted rfl (pa_cons (k_call G_calls_in N_calls_in hr (by decide) rfl (pa_cons (pv 0) pa_nil)) pa_nil)) pa_nil))))), pr_startX h (fun as c D r ok k nx => ?_) fun as C D r z => ?_⟩)
  · obtain ⟨t, ht, rfl, rfl⟩ := r
    have so := Th.sortU ht
    exact q_drop (ev_need (eva_cons (ev_dat rfl) eva_nil) (.inl rfl) (Th.kind ht)) (st_ret (ev_tupOf (a := .l (t.calls.map Cal.d)) (Ev.is (ev_sort (ev_calls (by walk_at "k00a") ht) (.inl rfl) so.alike so.sortable so.len so.dep) (by rw [so.eq])) (.inl rfl)) k)
  · obtain ⟨a, d, rfl, ha, hk, rfl⟩ := r
    obtain ⟨x, hx, _, hx2⟩ := ev_argV (W := W0) (H0 := H) (E := startE ["thing"] [a]) (i := 0) rfl (argV_of ha)
    exact q_dropX (evx_need (eva_cons hx eva_nil) hx2 hk) z
theorem ok_states {f1 f2 : Addr} {fd1 fd2 : FuncData} {CO : Addr} (F : FnP K "states" 30 f fd) (B : Bt mg) (G_need_object : FnOk P w K mg base (L2.CX P w) 4 f1 fd1 ["value"] (PrX relNeed (badObj CO))) (N_need_object : Kn K mg "need_object" ["value"] f1 fd1)
    (G_states_of : FnOk P w K mg base CX0 3 f2 fd2 ["thing"] (Pr relStates)) (N_states_of : Kn K mg "states_of" ["thing"] f2 fd2) : FnOk P w K mg base (L2.CX P w) 5 f fd ["thing"] (PrX relStatesX (badObj CO)) := by
  refine F.ok sc_states (fun vs H Q E h => prX_len (fun as c r => by obtain ⟨t, _, rfl, _⟩ := r; rfl) (fun as c r => by obtain ⟨a, d, rfl, _⟩ := r; rfl) h) (fun cdv A outer s H vs Q E hr h => ⟨_, (pss_cons (ps_expr (k_callX (takes_of rfl rfl rfl rfl) G_need_object N_need_object hr (by decide) rfl (pa_cons (pv 0) pa_nil)))
      (pss_one (ps_ret (k_tuple B.tuple rfl (pa_cons (k_call G_states_of N_states_of hr (by decide) rfl (pa_cons (pv 0) pa_nil)) pa_nil))))), pr_startX h (fun as c D r ok k nx => ?_) fun as C D r z => ?_⟩)
  · obtain ⟨t, ht, rfl, rfl⟩ := r
    exact q_drop (ev_need (eva_cons (ev_dat rfl) eva_nil) (.inl rfl) (Th.kind ht)) (st_ret (ev_tupOf (ev_states (by walk_at "k00a") ht) (.inl rfl)) k)
  · obtain ⟨a, d, rfl, ha, hk, rfl⟩ := r
    obtain ⟨x, hx, _, hx2⟩ := ev_argV (W := W0) (H0 := H) (E := startE ["thing"] [a]) (i := 0) rfl (argV_of ha)
    exact q_dropX (evx_need (eva_cons hx eva_nil) hx2 hk) z
end
end K00

/-! Part G. -/
set_option Elab.async false
set_option linter.all false
set_option autoImplicit false
set_option maxRecDepth 100000
set_option maxHeartbeats 4000000
/-! Calls, states as values; rows of calls. -/
namespace K00
open PySem PySem.Spec PyProof.Rows L2
local macro_rules | `(tactic| walk_at "k00a") => `(tactic| first
  | (with_reducible exact eva_nil)
  | ((with_reducible refine' eva_cons ?k1 ?k2); (case k1 => walk_at "k00e"); (case k2 => walk_at "k00a"))
  | ((with_reducible refine' eva_star ?k1 ?k2); (case k1 => walk_at "k00e"); (case k2 => walk_at "k00a")))
local macro_rules | `(tactic| walk_at "k00o") => `(tactic| first
  | (with_reducible exact evo_no)
  | ((with_reducible refine' evo_some ?k1); (case k1 => walk_at "k00e")))
local macro_rules | `(tactic| walk_at "k00e") => `(tactic| first
  | (with_reducible exact ev_int)
  | (with_reducible exact ev_str)
  | (with_reducible exact ev_bl)
  | (with_reducible exact ev_non)
  | ((with_reducible refine' ev_dat ?k1); (case k1 => rfl))
  | ((with_reducible refine' ev_own ?k1); (case k1 => rfl))
  | ((with_reducible refine' ev_argF ?k1 ?k2); (case k1 => rfl); (case k2 => rfl))
  | ((with_reducible refine' ev_arg ?k1); (case k1 => rfl))
  | ((with_reducible refine' ev_genF ?k1 ?k2); (case k1 => rfl); (case k2 => rfl))
  | ((with_reducible refine' ev_gen ?k1); (case k1 => rfl))
  | ((with_reducible refine' ev_raw ?k1); (case k1 => rfl))
  | ((with_reducible refine' ev_ixT ?k1 ?k2 ?k3); (case k1 => walk_at "k00e"); (case k2 => walk_at "k00e"); (case k3 => walk_at "k00i"))
  | ((with_reducible refine' ev_ixL ?k1 ?k2 ?k4 ?k3); (case k1 => walk_at "k00e"); (case k2 => walk_at "k00e"); (case k4 => first | exact Or.inl rfl | exact Or.inr rfl); (case k3 => walk_at "k00i"))
  | ((with_reducible refine' ev_isInt ?k1 ?k2); (case k1 => walk_at "k00e"); (case k2 => rfl))
  | ((with_reducible refine' ev_isBool ?k1 ?k2); (case k1 => walk_at "k00e"); (case k2 => rfl))
  | ((with_reducible refine' ev_isStr ?k1 ?k2); (case k1 => walk_at "k00e"); (case k2 => rfl))
  | ((with_reducible refine' ev_isTup ?k1 ?k2); (case k1 => walk_at "k00e"); (case k2 => rfl))
  | ((with_reducible refine' ev_isLst ?k1 ?k2); (case k1 => walk_at "k00e"); (case k2 => rfl))
  | ((with_reducible refine' ev_isSeq ?k1 ?k2); (case k1 => walk_at "k00e"); (case k2 => rfl))
  | ((with_reducible refine' ev_lenB ?k1 ?k2); (case k1 => walk_at "k00e"); (case k2 => first | exact Or.inl rfl | exact Or.inr rfl))
  | ((with_reducible refine' ev_int2 ?k1 ?k2); (case k1 => walk_at "k00e"); (case k2 => walk_at "k00e"))
  | ((with_reducible refine' ev_cmp2 ?k1 ?k2); (case k1 => walk_at "k00e"); (case k2 => walk_at "k00e"))
  | ((with_reducible refine' ev_intC ?k1 ?k2 ?k3); (case k1 => walk_at "k00e"); (case k2 => walk_at "k00e"); (case k3 => walk_at "k00c"))
  | ((with_reducible refine' ev_eqS ?k1 ?k2); (case k1 => walk_at "k00e"); (case k2 => walk_at "k00e"))
  | ((with_reducible refine' ev_eqI ?k1 ?k2); (case k1 => walk_at "k00e"); (case k2 => walk_at "k00e"))
  | ((with_reducible refine' ev_neI ?k1 ?k2); (case k1 => walk_at "k00e"); (case k2 => walk_at "k00e"))
  | ((with_reducible refine' ev_eqB ?k1 ?k2); (case k1 => walk_at "k00e"); (case k2 => walk_at "k00e"))
  | ((with_reducible refine' ev_neB ?k1 ?k2); (case k1 => walk_at "k00e"); (case k2 => walk_at "k00e"))
  | ((with_reducible refine' ev_eqD ?k1 ?k2 ?k3 ?k4 ?k5 ?k6); (case k1 => walk_at "k00e"); (case k2 => walk_at "k00e"); (case k3 => rfl); (case k4 => rfl); (case k5 => walk_at "k00s"); (case k6 => walk_at "k00s"))
  | ((with_reducible refine' ev_neD ?k1 ?k2 ?k3 ?k4 ?k5 ?k6); (case k1 => walk_at "k00e"); (case k2 => walk_at "k00e"); (case k3 => rfl); (case k4 => rfl); (case k5 => walk_at "k00s"); (case k6 => walk_at "k00s"))
  | ((with_reducible refine' ev_inD ?k1 ?k2 ?k3 ?k4 ?k5 ?k6); (case k1 => walk_at "k00e"); (case k2 => walk_at "k00e"); (case k3 => rfl); (case k4 => rfl); (case k5 => walk_at "k00s"); (case k6 => walk_at "k00s"))
  | ((with_reducible refine' ev_niD ?k1 ?k2 ?k3 ?k4 ?k5 ?k6); (case k1 => walk_at "k00e"); (case k2 => walk_at "k00e"); (case k3 => rfl); (case k4 => rfl); (case k5 => walk_at "k00s"); (case k6 => walk_at "k00s"))
  | ((with_reducible refine' ev_isNone ?k1 ?k2); (case k1 => walk_at "k00e"); (case k2 => rfl))
  | ((with_reducible refine' ev_notNone ?k1 ?k2); (case k1 => walk_at "k00e"); (case k2 => rfl))
  | ((with_reducible refine' ev_neg ?k1); (case k1 => walk_at "k00e"))
  | ((with_reducible refine' ev_tup ?k1 ?k2 ?k3); (case k1 => walk_at "k00a"); (case k2 => first | rfl | exact allF_app _ _); (case k3 => walk_at "k00l"))
  | ((with_reducible refine' ev_lst ?k1 ?k2 ?k3); (case k1 => walk_at "k00a"); (case k2 => first | rfl | exact allF_app _ _); (case k3 => walk_at "k00l"))
  | ((with_reducible refine' ev_slT ?k1 ?k2 ?k3); (case k1 => walk_at "k00e"); (case k2 => walk_at "k00o"); (case k3 => walk_at "k00o"))
  | ((with_reducible refine' ev_catT ?k1 ?k2 ?k3); (case k1 => walk_at "k00e"); (case k2 => walk_at "k00e"); (case k3 => walk_at "k00l"))
  | ((with_reducible refine' ev_cat ?k1 ?k2 ?k4 ?k5 ?k3); (case k1 => walk_at "k00e"); (case k2 => walk_at "k00e"); (case k4 => first | exact Or.inl rfl | exact Or.inr rfl); (case k5 => first | exact Or.inl rfl | exact Or.inr rfl); (case k3 => walk_at "k00l"))
  | ((with_reducible refine' ev_tupOf ?k1 ?k2); (case k1 => walk_at "k00e"); (case k2 => first | exact Or.inl rfl | exact Or.inr rfl))
  | ((with_reducible refine' ev_lstOf ?k1); (case k1 => walk_at "k00e"))
  | ((with_reducible refine' ev_intI ?k1); (case k1 => walk_at "k00e"))
  | ((with_reducible refine' ev_intB ?k1); (case k1 => walk_at "k00e"))
  | ((with_reducible refine' ev_and0 ?k1 ?k2); (case k1 => walk_at "k00e"); (case k2 => first | rfl | assumption))
  | ((with_reducible refine' ev_or1 ?k1 ?k2); (case k1 => walk_at "k00e"); (case k2 => first | rfl | assumption))
  | ((with_reducible refine' ev_ifT ?k1 ?k2 ?k3); (case k1 => walk_at "k00t"); (case k2 => first | rfl | assumption); (case k3 => walk_at "k00e"))
  | ((with_reducible refine' ev_ifF ?k1 ?k2 ?k3); (case k1 => walk_at "k00t"); (case k2 => first | rfl | assumption); (case k3 => walk_at "k00e"))
  | ((with_reducible refine' ev_andV ?k1 ?k2); (case k1 => walk_at "k00e"); (case k2 => intro hb; walk_at "k00e"))
  | ((with_reducible refine' ev_orV ?k1 ?k2); (case k1 => walk_at "k00e"); (case k2 => intro hb; walk_at "k00e"))
  | ((with_reducible refine' ev_notV ?k1); (case k1 => walk_at "k00e"))
  | ((with_reducible refine' ev_chain ?k1 ?k2 ?k3); (case k1 => walk_at "k00e"); (case k2 => walk_at "k00e"); (case k3 => walk_at "k00e"))
  | ((with_reducible refine' ev_inT ?k1 ?k2 ?k3 ?k4); (case k1 => walk_at "k00e"); (case k2 => walk_at "k00e"); (case k3 => walk_at "k00w"); (case k4 => rfl))
  | ((with_reducible refine' ev_inN ?k1 ?k2 ?k3 ?k4); (case k1 => walk_at "k00e"); (case k2 => walk_at "k00e"); (case k3 => walk_at "k00w"); (case k4 => rfl))
  | ((with_reducible refine' ev_inI ?k1 ?k2 ?k3); (case k1 => walk_at "k00e"); (case k2 => walk_at "k00e"); (case k3 => exact Or.inr (Or.inr rfl)))
  | ((with_reducible refine' ev_lcW ?k1 ?k2 ?k3 ?k4); (case k1 => walk_at "k00n"); (case k2 => decide); (case k3 => walk_at "k00x"); (case k4 => first | decide | exact of_decide_eq_true rfl))
  | walk_at "k00r"
  | (with_reducible exact ev_c))
local macro_rules | `(tactic| walk_at "k00k") => `(tactic| first
  | exact Coes.nil
  | ((refine' Coes.cons ?k1 ?k2); (case k1 => first | exact coe_rfl | exact coe_b rfl); (case k2 => walk_at "k00k")))
local macro_rules | `(tactic| walk_at "k00i") => `(tactic| first | rfl | assumption)
local macro_rules | `(tactic| walk_at "k00c") => `(tactic| first | trivial | decide | omega | assumption)
local macro_rules | `(tactic| walk_at "k00l") => `(tactic| first | decide | (simp; done) | (simp; omega) | omega | assumption | (simp [rangeR_len2, fzs]; done) | (simp [rangeR_len2, fzs]; omega))
local macro_rules | `(tactic| walk_at "k00s") => `(tactic| first | rfl | decide +kernel | assumption | exact Sh.shaped (by assumption))
local macro_rules | `(tactic| walk_at "k00t") => `(tactic| first
  | ((with_reducible refine' et_test ?k1); (case k1 => walk_at "k00e"))
  | ((with_reducible refine' et_B ?k1); (case k1 => walk_at "k00e"))
  | ((with_reducible refine' et_not ?k1); (case k1 => walk_at "k00t"))
  | ((with_reducible refine' et_and0 ?k1 ?k2); (case k1 => walk_at "k00t"); (case k2 => first | rfl | assumption))
  | ((with_reducible refine' et_or1 ?k1 ?k2); (case k1 => walk_at "k00t"); (case k2 => first | rfl | assumption))
  | ((with_reducible refine' et_and ?k1 ?k2); (case k1 => walk_at "k00t"); (case k2 => intro hb; walk_at "k00t"))
  | ((with_reducible refine' et_or ?k1 ?k2); (case k1 => walk_at "k00t"); (case k2 => intro hb; walk_at "k00t"))
  | (with_reducible exact et_yes))

local macro_rules | `(tactic| walk_at "k00n") => `(tactic| first
  | ((with_reducible refine' evi_rng1 ?k1 ?k2); (case k1 => walk_at "k00e"); (case k2 => walk_at "k00y"))
  | ((with_reducible refine' evi_rng2 ?k1 ?k2 ?k3); (case k1 => walk_at "k00e"); (case k2 => walk_at "k00e"); (case k3 => walk_at "k00y"))
  | ((with_reducible refine' evi_tup ?k1); (case k1 => walk_at "k00e"))
  | ((with_reducible refine' evi_lst ?k1 ?k2); (case k1 => walk_at "k00e"); (case k2 => first | exact Or.inl rfl | exact Or.inr rfl)))
local macro_rules | `(tactic| walk_at "k00y") => `(tactic| first | decide | omega | (simp; omega) | assumption)
local macro_rules | `(tactic| walk_at "k00x") => `(tactic| first | decide | assumption | (rw [rangeR_iv, List.length_map]; unfold iv; rw [List.length_map, List.length_range]; omega))
local macro_rules | `(tactic| walk_at "k00w") => `(tactic| first | exact Or.inr (Or.inr rfl) | exact Or.inl rfl | exact Or.inr (Or.inl rfl))
local macro_rules | `(tactic| walk_at "k00b") => `(tactic| first | decide +kernel | rfl | assumption | (simp; done))
local macro_rules | `(tactic| walk_at "k00g") => `(tactic| first
  | ((with_reducible refine' q_asgF ?k1 ?k2); (case k1 => walk_at "k00e"))
  | ((with_reducible refine' q_guardF ?k1 ?k2 ?k3); (case k1 => walk_at "k00t"); (case k2 => walk_at "k00b"))
  | ((with_reducible refine' q_guardT ?k1 ?k2 ?k3); (case k1 => walk_at "k00t"); (case k2 => walk_at "k00b"))
  | ((with_reducible refine' q_two ?k1 ?k2); (case k1 => walk_at "k00e"))
  | ((with_reducible refine' q_par ?k1 ?k2); (case k1 => walk_at "k00a"))
  | ((with_reducible refine' q_par3 ?k1 ?k2); (case k1 => walk_at "k00a")))
local macro_rules | `(tactic| walk_at "k00f") => `(tactic| ((refine' Ev.is ?k1 ?k2); (case k1 => walk_at "k00e"); (case k2 => rfl)))
local macro_rules | `(tactic| walk_at "k00r") => `(tactic| first
  | ((with_reducible refine' ev_small ?k1 ?k2); (case k1 => walk_at "k00a"); (case k2 => rfl))
  | ((with_reducible refine' ev_bank ?k1); (case k1 => walk_at "k00a"))
  | ((with_reducible refine' ev_table ?k1); (case k1 => walk_at "k00a")))
def plainD (d : PyData) : Bool := match d with
  | .tuple (.str _ :: r) => r.all fun x => isInt x && !isBool x
  | _ => false
def relPlain (as : List AR) (c : AR) : Prop := ∃ a d, as = [a] ∧ isArg a d ∧ (∀ ds, d = .tuple ds → ds.length ≤ 50000) ∧ c = .f (.bool (plainD d))
def Th.isCall (t : Th) (d : PyData) : Bool := plainD d && (t.callsU.map Cal.d).any fun z => PyData.eqv z d
/-- a value as one is asked of: small -/
def Vl (d : PyData) : Prop := Sh 50 d ∧ ∀ ds, d = .tuple ds → ds.length ≤ 1000
def relCallOf (as : List AR) (c : AR) : Prop := ∃ (t : Th) (a : AR) (d : PyData), t.ok ∧ as = [.f t.d, a] ∧ isArg a d ∧ Vl d ∧ c = .f (.bool (t.isCall d))
def badObj2 (CO : Addr) (as : List AR) (C : Addr) : Prop := ∃ a d b, as = [a, b] ∧ isArg a d ∧ kindD d = false ∧ C = CO
def relNeedC (as : List AR) (c : AR) : Prop := ∃ (t : Th) (a : AR) (d : PyData), t.ok ∧ as = [.f t.d, a] ∧ isArg a d ∧ Vl d ∧ t.isCall d = true ∧ c = .f .none
def badCall (CC : Addr) (as : List AR) (C : Addr) : Prop := ∃ (t : Th) (a : AR) (d : PyData), t.ok ∧ as = [.f t.d, a] ∧ isArg a d ∧ Vl d ∧ t.isCall d = false ∧ C = CC
theorem calls_sh {l : List Cal} (h : ∀ c ∈ l, PyData.canLay0 (.str c.w) = true) : Sh 3 (.list (l.map Cal.d)) := (ShAll.of fun d hd => by
  obtain ⟨c, hc, rfl⟩ := List.mem_map.mp hd
  exact (ShAll.cons (Sh.str (h c hc)) (ShAll.ints c.ns)).tup).lst
theorem Th.okC_str {t : Th} {c : Cal} (h : t.okC c) : PyData.canLay0 (.str c.w) = true := by
  cases t with
  | counter m => rcases h with rfl | ⟨k, hk, rfl⟩ <;> (dsimp only; decide +kernel)
  | register m => rcases h with rfl | ⟨k, hk, rfl | rfl⟩ <;> (dsimp only; decide +kernel)
  | stack r m => rcases h with rfl | ⟨k, hk, rfl⟩ <;> (dsimp only; decide +kernel)
  | queue r m => rcases h with rfl | ⟨k, hk, rfl⟩ <;> (dsimp only; decide +kernel)
  | set m => rcases h with ⟨k, hk, rfl | rfl | rfl⟩ <;> (dsimp only; decide +kernel)
  | agree m => rcases h with ⟨k, hk, rfl⟩; dsimp only; decide +kernel
  | bank bs => rcases h with ⟨k, hk, rfl⟩ | ⟨a, b, x, _, _, _, _, rfl⟩ <;> (dsimp only; decide +kernel)
  | table rows => rcases h with ⟨k, hk, rfl⟩; dsimp only; decide +kernel
theorem callsU_sh (t : Th) : Sh 3 (.list (t.callsU.map Cal.d)) := calls_sh fun c hc => Th.okC_str (Th.okC_of (Th.mem_calls.mpr hc))
theorem callsS_sh (t : Th) : Sh 3 (.list (t.calls.map Cal.d)) := calls_sh fun c hc => Th.okC_str (Th.okC_of hc)
theorem cut1 {x : PyData} {r : List PyData} : cutD (x :: r) (some 1) none = r := by
  have e : HT.sIx (x :: r).length 0 (some ((1 : Nat) : Int)) = 1 := by
    rw [HT.sIx_nat]
    simp
  show (List.drop (HT.sIx (x :: r).length 0 (some ((1 : Nat) : Int))) (x :: r)).take ((x :: r).length - HT.sIx (x :: r).length 0 (some ((1 : Nat) : Int))) = r
  rw [e, List.drop_one, List.tail_cons, List.length_cons, Nat.add_sub_cancel, List.take_length]
section
variable {W : Wd} {H0 : Hp} {ta : TA} {E : List AV} {Ex : XK} {CO CC : Addr} {a : AR} {d : PyData} {t : Th}
theorem ev_plain (h : EvA W H0 ta E [a]) (ha : a = .f d ∨ ((∃ ds, a.d = some (.list ds)) ∧ a.d = some d)) (hl : ∀ ds, d = .tuple ds → ds.length ≤ 50000) : Ev W H0 (tCall (Pr relPlain) [] Ex ta) E (.f (.bool (plainD d))) := by
  obtain ⟨b, hb, hi⟩ := isArg_coe ha
  exact ev_call h (.cons hb .nil) ⟨_, d, rfl, hi, hl, rfl⟩ trivial
theorem ev_callOf (h : EvA W H0 ta E [.f t.d, a]) (ht : t.ok) (ha : a = .f d ∨ ((∃ ds, a.d = some (.list ds)) ∧ a.d = some d)) (hv : Vl d) : Ev W H0 (tCall (Pr relCallOf) [] Ex ta) E (.f (.bool (t.isCall d))) := by
  obtain ⟨b, hb, hi⟩ := isArg_coe ha
  exact ev_call h (.cons coe_rfl (.cons hb .nil)) ⟨t, _, d, ht, rfl, hi, hv, rfl⟩ trivial
theorem ev_needC (h : EvA W H0 ta E [.f t.d, a]) (ht : t.ok) (ha : a = .f d ∨ ((∃ ds, a.d = some (.list ds)) ∧ a.d = some d)) (hv : Vl d) (hc : t.isCall d = true) : Ev W H0 (tCall (PrX relNeedC (badCall CC)) [] Ex ta) E (.f .none) := by
  obtain ⟨b, hb, hi⟩ := isArg_coe ha
  exact ev_callX h (.cons coe_rfl (.cons hb .nil)) ⟨t, _, d, ht, rfl, hi, hv, hc, rfl⟩ trivial
theorem evx_needC (h : EvA W H0 ta E [.f t.d, a]) (ht : t.ok) (ha : a = .f d ∨ ((∃ ds, a.d = some (.list ds)) ∧ a.d = some d)) (hv : Vl d) (hc : t.isCall d = false) : EvX W H0 (tCall (PrX relNeedC (badCall CC)) [] Ex ta) E (fun H' => Ex (.ref CC) none H') := by
  obtain ⟨b, hb, hi⟩ := isArg_coe ha
  exact evx_call h (.cons coe_rfl (.cons hb .nil)) ⟨t, _, d, ht, rfl, hi, hv, hc, rfl⟩
end
section
variable {P : Program} {w : World} {K : PySem.W.Frag} {mg : Str → Option Value} {base : Heap} {f : Addr} {fd : FuncData}
theorem sc_is_plain_tuple : FnScope ["value", "one"] ["value"] (defScope (stm 25)) := ⟨rfl, rfl, rfl, by decide +kernel, rfl, by decide +kernel, by decide +kernel⟩
theorem sc_is_call_of : FnScope ["thing", "value"] ["thing", "value"] (defScope (stm 26)) := ⟨rfl, rfl, rfl, by decide +kernel, rfl, by decide +kernel, by decide +kernel⟩
theorem sc_is_call : FnScope ["thing", "value"] ["thing", "value"] (defScope (stm 27)) := ⟨rfl, rfl, rfl, by decide +kernel, rfl, by decide +kernel, by decide +kernel⟩
theorem sc_need_call : FnScope ["thing", "value"] ["thing", "value"] (defScope (stm 28)) := ⟨rfl, rfl, rfl, by decide +kernel, rfl, by decide +kernel, by decide +kernel⟩
theorem ok_is_plain_tuple (F : FnP K "is_plain_tuple" 25 f fd) (B : Bt mg) : FnOk P w K mg base CX0 1 f fd ["value"] (Pr relPlain) := by
  refine F.ok sc_is_plain_tuple (fun vs H Q E h => pr_len (fun as c r => by obtain ⟨a, d, rfl, _⟩ := r; rfl) h) (fun cdv A outer s H vs Q E hr h => ⟨_, PSs.nox (pss_cons (ps_if (PW.pt (pw_or (pt_not (pt_val (k_isinstance B.isinstance rfl (pa_cons (pv 0) (pa_cons (k_ty B.tuple rfl boot_tuple') pa_nil))))) (pw_or (pt_cmpR op_eq (k_len B.len rfl (pa_cons (pv 0) pa_nil)) pe_int (nomark _)) (pw_or1 (pt_not (pt_val (k_isinstance B.isinstance rfl (pa_cons (pe_ix ix_tup (pv 0) pe_int (fun _ _ => rfl)) (pa_cons (k_ty B.str rfl boot_str') pa_nil))))))))) (pss_one (ps_ret pe_bl)) pss_nil)
      (pss_one (ps_ret (k_all rfl B.all rfl (pa_cons (pe_lc (own := [("one", 1)]) (g := gName 1) rfl sc_is_plain_tuple.nd (pi_tup (pe_slice sl_tupA (pv 0) (po_some pe_int) po_none)) (blkOk_by (own := [("one", 1)]) (N := ["value", "one"]) (sc := defScope (stm 25)) (by decide +kernel)) (fun _ _ _ _ _ => pg_name (i := 1) sc_is_plain_tuple.nd rfl (Or.inl rfl)) (fun _ _ _ _ _ => pts_nil) (fun _ _ _ _ _ => (pe_and (k_isinstanceK K B.isinstance rfl (pa_cons (pv 1) (pa_cons (k_ty B.int rfl boot_int') pa_nil))) (pe_one (pe_not (k_isinstanceK K B.isinstance rfl (pa_cons (pv 1) (pa_cons (k_ty B.bool rfl boot_bool') pa_nil)))))))) pa_nil))))), pr_start h fun as c D r ok k => ?_⟩)
  obtain ⟨a, d, rfl, ha, hl, rfl⟩ := r
  rcases ha with rfl | ⟨ds, rfl, rfl⟩
  · cases d with
    | tuple ds =>
      rcases ds with _ | ⟨x, r⟩
      · refine' q_guardT (b := true) (EvT.is ?h ?e) rfl (st_ret ev_bl (k.eq rfl rfl))
        case h => exact et_or (et_not (et_B (ev_isTup (ev_dat rfl) rfl))) fun _ => et_or (y := true) (et_test (ev_eqI (ev_lenB (ev_dat rfl) (.inr rfl)) ev_int)) fun z => by cases z
        case e => rfl
      · have i0 : atI (x :: r) 0 = some x := atI_nat rfl
        have len0 : decide (((x :: r).length : Int) = 0) = false := by
          rw [decide_eq_false_iff_not]
          simp
          omega
        have hr2 := hl _ rfl
        cases x with
        | str nm =>
          refine' q_guardF (b := false) (EvT.is ?h ?e) rfl ?nx0
          case h => exact et_or (et_not (et_B (ev_isTup (ev_dat rfl) rfl))) fun _ => et_or (et_test (ev_eqI (ev_lenB (ev_dat rfl) (.inr rfl)) ev_int)) fun _ => et_not (et_B (ev_isStr (ev_ixT (ev_dat rfl) ev_int i0) rfl))
          case e =>
            rw [len0]
            rfl
          refine' st_ret (Ev.is ?h ?e) k
          case h =>
            exact ev_all (bs := r.map fun x => isInt x && !isBool x) (ev_lc1 (src := r) (fun d => .bool (isInt d && !isBool d)) (evi_tup (Ev.is (ev_slT (lo := some 1) (hi := none) (ev_dat rfl) (evo_some ev_int) evo_no) (by rw [cut1]))) (by decide) (by simp at hr2; omega) (fun d hd => ev_andV (ev_isInt (ev_dat rfl) rfl) fun _ => ev_notV (ev_isBool (ev_dat rfl) rfl))) (by rw [List.map_map]; rfl)
          case e =>
            simp only [plainD, List.all_map]
            rfl
        | _ =>
          refine' q_guardT (b := true) (EvT.is ?h ?e) rfl (st_ret ev_bl (k.eq rfl rfl))
          case h => exact et_or (et_not (et_B (ev_isTup (ev_dat rfl) rfl))) fun _ => et_or (et_test (ev_eqI (ev_lenB (ev_dat rfl) (.inr rfl)) ev_int)) fun _ => et_not (et_B (ev_isStr (ev_ixT (ev_dat rfl) ev_int i0) rfl))
          case e =>
            rw [len0]
            rfl
    | _ =>
      refine' q_guardT (b := true) ?h rfl (st_ret ev_bl (k.eq rfl rfl))
      case h => exact et_or1 (et_not (et_B (ev_isTup (ev_dat rfl) rfl))) rfl
  · refine' q_guardT (b := true) ?h rfl (st_ret ev_bl (k.eq rfl rfl))
    case h => exact et_or1 (et_not (et_B (ev_isTup (ev_arg rfl) rfl))) rfl
theorem ok_is_call_of {f1 f2 : Addr} {fd1 fd2 : FuncData} (F : FnP K "is_call_of" 26 f fd) (B : Bt mg) (G_is_plain_tuple : FnOk P w K mg base CX0 1 f1 fd1 ["value"] (Pr relPlain)) (N_is_plain_tuple : Kn K mg "is_plain_tuple" ["value"] f1 fd1)
    (G_calls_in : FnOk P w K mg base CX0 2 f2 fd2 ["thing"] (Pr relCalls)) (N_calls_in : Kn K mg "calls_in" ["thing"] f2 fd2) : FnOk P w K mg base CX0 3 f fd ["thing", "value"] (Pr relCallOf) := by
  refine F.ok sc_is_call_of (fun vs H Q E h => pr_len (fun as c r => by obtain ⟨t, a, d, _, rfl, _⟩ := r; rfl) h) (fun cdv A outer s H vs Q E hr h => ⟨_, PSs.nox (pss_one (ps_ret (pe_and (k_call G_is_plain_tuple N_is_plain_tuple hr (by decide) rfl (pa_cons (pv 1) pa_nil)) (pe_one (pe_cmpR (op_inD (room65 hr)) (pv 1) (k_call G_calls_in N_calls_in hr (by decide) rfl (pa_cons (pv 0) pa_nil)) (by rfl)))))), pr_start h fun as c D r ok k => ?_⟩)
  obtain ⟨t, a, d, ht, rfl, ha, hv, rfl⟩ := r
  obtain ⟨x, hx, hx1, hx2⟩ := ev_argV (W := W0) (H0 := H) (E := startE ["thing", "value"] [.f t.d, a]) (i := 1) rfl (argV_of ha)
  exact st_ret (ev_andV (ev_plain (eva_cons hx eva_nil) hx2 fun ds e => by have := hv.2 ds e; omega) fun _ => ev_inD hx (ev_calls (eva_cons (ev_dat rfl) eva_nil) ht) hx1 rfl hv.1.shaped (callsU_sh t).shaped) k
theorem ok_is_call {f1 f2 : Addr} {fd1 fd2 : FuncData} {CO : Addr} (F : FnP K "is_call" 27 f fd) (B : Bt mg) (G_need_object : FnOk P w K mg base (L2.CX P w) 4 f1 fd1 ["value"] (PrX relNeed (badObj CO))) (N_need_object : Kn K mg "need_object" ["value"] f1 fd1)
    (G_is_call_of : FnOk P w K mg base CX0 3 f2 fd2 ["thing", "value"] (Pr relCallOf)) (N_is_call_of : Kn K mg "is_call_of" ["thing", "value"] f2 fd2) : FnOk P w K mg base (L2.CX P w) 5 f fd ["thing", "value"] (PrX relCallOf (badObj2 CO)) := by
  refine F.ok sc_is_call (fun vs H Q E h => prX_len (fun as c r => by obtain ⟨t, a, d, _, rfl, _⟩ := r; rfl) (fun as c r => by obtain ⟨a, d, b, rfl, _⟩ := r; rfl) h) (fun cdv A outer s H vs Q E hr h => ⟨_, (pss_cons (ps_expr (k_callX (takes_of rfl rfl rfl rfl) G_need_object N_need_object hr (by decide) rfl (pa_cons (pv 0) pa_nil)))
      (pss_one (ps_ret (k_call G_is_call_of N_is_call_of hr (by decide) rfl (pa_cons (pv 0) (pa_cons (pv 1) pa_nil)))))), pr_startX h (fun as c D r ok k nx => ?_) fun as C D r z => ?_⟩)
  · obtain ⟨t, a, d, ht, rfl, ha, hv, rfl⟩ := r
    obtain ⟨x, hx, hx1, hx2⟩ := ev_argV (W := W0) (H0 := H) (E := startE ["thing", "value"] [.f t.d, a]) (i := 1) rfl (argV_of ha)
    exact q_drop (ev_need (eva_cons (ev_dat rfl) eva_nil) (.inl rfl) (Th.kind ht)) (st_ret (ev_callOf (eva_cons (ev_dat rfl) (eva_cons hx eva_nil)) ht hx2 hv) k)
  · obtain ⟨a, d, b, rfl, ha, hk, rfl⟩ := r
    obtain ⟨x, hx, _, hx2⟩ := ev_argV (W := W0) (H0 := H) (E := startE ["thing", "value"] [a, b]) (i := 0) rfl (argV_of ha)
    exact q_dropX (evx_need (eva_cons hx eva_nil) hx2 hk) z
theorem ok_need_call {f1 : Addr} {fd1 : FuncData} {CC : Addr} (F : FnP K "need_call" 28 f fd) (B : Bt mg) (Z_BadCall : Ze K mg "BadCall" CC)
    (G_is_call_of : FnOk P w K mg base CX0 3 f1 fd1 ["thing", "value"] (Pr relCallOf)) (N_is_call_of : Kn K mg "is_call_of" ["thing", "value"] f1 fd1) : FnOk P w K mg base (L2.CX P w) 4 f fd ["thing", "value"] (PrX relNeedC (badCall CC)) := by
  refine F.ok sc_need_call (fun vs H Q E h => prX_len (fun as c r => by obtain ⟨t, a, d, _, rfl, _⟩ := r; rfl) (fun as c r => by obtain ⟨t, a, d, _, rfl, _⟩ := r; rfl) h) (fun cdv A outer s H vs Q E hr h => ⟨_, (pss_one (ps_if (pt_not (pt_val (k_call G_is_call_of N_is_call_of hr (by decide) rfl (pa_cons (pv 0) (pa_cons (pv 1) pa_nil))))) (pss_one (ps_raise rfl (takes_of rfl rfl rfl rfl) (pmk_bare PySem.F.excBase_ValueError Z_BadCall.q Z_BadCall.g Z_BadCall.k (raises_own Z_BadCall.b Z_BadCall.t) rfl))) pss_nil)), pr_startX h (fun as c D r ok k nx => ?_) fun as C D r z => ?_⟩)
  · obtain ⟨t, a, d, ht, rfl, ha, hv, hc, rfl⟩ := r
    obtain ⟨x, hx, hx1, hx2⟩ := ev_argV (W := W0) (H0 := H) (E := startE ["thing", "value"] [.f t.d, a]) (i := 1) rfl (argV_of ha)
    exact st_if (et_not (et_B (ev_callOf (eva_cons (ev_dat rfl) (eva_cons hx eva_nil)) ht hx2 hv))) (fun hb => by rw [hc] at hb; cases hb) fun _ => st_next fun σ H' S => nx rfl σ H' S.nx
  · obtain ⟨t, a, d, ht, rfl, ha, hv, hc, rfl⟩ := r
    obtain ⟨x, hx, hx1, hx2⟩ := ev_argV (W := W0) (H0 := H) (E := startE ["thing", "value"] [.f t.d, a]) (i := 1) rfl (argV_of ha)
    exact st_if (et_not (et_B (ev_callOf (eva_cons (ev_dat rfl) (eva_cons hx eva_nil)) ht hx2 hv))) (fun _ => st_raise z) fun hb => by rw [hc] at hb; cases hb
end
end K00

/-! Part H. -/
set_option Elab.async false
set_option linter.all false
set_option autoImplicit false
set_option maxRecDepth 100000
set_option maxHeartbeats 4000000
/-! States as values; what a call does; rows of calls. -/
namespace K00
open PySem PySem.Spec PyProof.Rows L2
local macro_rules | `(tactic| walk_at "k00a") => `(tactic| first
  | (with_reducible exact eva_nil)
  | ((with_reducible refine' eva_cons ?k1 ?k2); (case k1 => walk_at "k00e"); (case k2 => walk_at "k00a"))
  | ((with_reducible refine' eva_star ?k1 ?k2); (case k1 => walk_at "k00e"); (case k2 => walk_at "k00a")))
local macro_rules | `(tactic| walk_at "k00o") => `(tactic| first
  | (with_reducible exact evo_no)
  | ((with_reducible refine' evo_some ?k1); (case k1 => walk_at "k00e")))
local macro_rules | `(tactic| walk_at "k00e") => `(tactic| first
  | (with_reducible exact ev_int)
  | (with_reducible exact ev_str)
  | (with_reducible exact ev_bl)
  | (with_reducible exact ev_non)
  | ((with_reducible refine' ev_dat ?k1); (case k1 => rfl))
  | ((with_reducible refine' ev_own ?k1); (case k1 => rfl))
  | ((with_reducible refine' ev_argF ?k1 ?k2); (case k1 => rfl); (case k2 => rfl))
  | ((with_reducible refine' ev_arg ?k1); (case k1 => rfl))
  | ((with_reducible refine' ev_genF ?k1 ?k2); (case k1 => rfl); (case k2 => rfl))
  | ((with_reducible refine' ev_gen ?k1); (case k1 => rfl))
  | ((with_reducible refine' ev_raw ?k1); (case k1 => rfl))
  | ((with_reducible refine' ev_ixT ?k1 ?k2 ?k3); (case k1 => walk_at "k00e"); (case k2 => walk_at "k00e"); (case k3 => walk_at "k00i"))
  | ((with_reducible refine' ev_ixL ?k1 ?k2 ?k4 ?k3); (case k1 => walk_at "k00e"); (case k2 => walk_at "k00e"); (case k4 => first | exact Or.inl rfl | exact Or.inr rfl); (case k3 => walk_at "k00i"))
  | ((with_reducible refine' ev_isInt ?k1 ?k2); (case k1 => walk_at "k00e"); (case k2 => rfl))
  | ((with_reducible refine' ev_isBool ?k1 ?k2); (case k1 => walk_at "k00e"); (case k2 => rfl))
  | ((with_reducible refine' ev_isStr ?k1 ?k2); (case k1 => walk_at "k00e"); (case k2 => rfl))
  | ((with_reducible refine' ev_isTup ?k1 ?k2); (case k1 => walk_at "k00e"); (case k2 => rfl))
  | ((with_reducible refine' ev_isLst ?k1 ?k2); (case k1 => walk_at "k00e"); (case k2 => rfl))
  | ((with_reducible refine' ev_isSeq ?k1 ?k2); (case k1 => walk_at "k00e"); (case k2 => rfl))
  | ((with_reducible refine' ev_lenB ?k1 ?k2); (case k1 => walk_at "k00e"); (case k2 => first | exact Or.inl rfl | exact Or.inr rfl))
  | ((with_reducible refine' ev_int2 ?k1 ?k2); (case k1 => walk_at "k00e"); (case k2 => walk_at "k00e"))
  | ((with_reducible refine' ev_cmp2 ?k1 ?k2); (case k1 => walk_at "k00e"); (case k2 => walk_at "k00e"))
  | ((with_reducible refine' ev_intC ?k1 ?k2 ?k3); (case k1 => walk_at "k00e"); (case k2 => walk_at "k00e"); (case k3 => walk_at "k00c"))
  | ((with_reducible refine' ev_eqS ?k1 ?k2); (case k1 => walk_at "k00e"); (case k2 => walk_at "k00e"))
  | ((with_reducible refine' ev_eqI ?k1 ?k2); (case k1 => walk_at "k00e"); (case k2 => walk_at "k00e"))
  | ((with_reducible refine' ev_neI ?k1 ?k2); (case k1 => walk_at "k00e"); (case k2 => walk_at "k00e"))
  | ((with_reducible refine' ev_eqB ?k1 ?k2); (case k1 => walk_at "k00e"); (case k2 => walk_at "k00e"))
  | ((with_reducible refine' ev_neB ?k1 ?k2); (case k1 => walk_at "k00e"); (case k2 => walk_at "k00e"))
  | ((with_reducible refine' ev_eqD ?k1 ?k2 ?k3 ?k4 ?k5 ?k6); (case k1 => walk_at "k00e"); (case k2 => walk_at "k00e"); (case k3 => rfl); (case k4 => rfl); (case k5 => walk_at "k00s"); (case k6 => walk_at "k00s"))
  | ((with_reducible refine' ev_neD ?k1 ?k2 ?k3 ?k4 ?k5 ?k6); (case k1 => walk_at "k00e"); (case k2 => walk_at "k00e"); (case k3 => rfl); (case k4 => rfl); (case k5 => walk_at "k00s"); (case k6 => walk_at "k00s"))
  | ((with_reducible refine' ev_inD ?k1 ?k2 ?k3 ?k4 ?k5 ?k6); (case k1 => walk_at "k00e"); (case k2 => walk_at "k00e"); (case k3 => rfl); (case k4 => rfl); (case k5 => walk_at "k00s"); (case k6 => walk_at "k00s"))
  | ((with_reducible refine' ev_niD ?k1 ?k2 ?k3 ?k4 ?k5 ?k6); (case k1 => walk_at "k00e"); (case k2 => walk_at "k00e"); (case k3 => rfl); (case k4 => rfl); (case k5 => walk_at "k00s"); (case k6 => walk_at "k00s"))
  | ((with_reducible refine' ev_isNone ?k1 ?k2); (case k1 => walk_at "k00e"); (case k2 => rfl))
  | ((with_reducible refine' ev_notNone ?k1 ?k2); (case k1 => walk_at "k00e"); (case k2 => rfl))
  | ((with_reducible refine' ev_neg ?k1); (case k1 => walk_at "k00e"))
  | ((with_reducible refine' ev_tup ?k1 ?k2 ?k3); (case k1 => walk_at "k00a"); (case k2 => first | rfl | exact allF_app _ _); (case k3 => walk_at "k00l"))
  | ((with_reducible refine' ev_lst ?k1 ?k2 ?k3); (case k1 => walk_at "k00a"); (case k2 => first | rfl | exact allF_app _ _); (case k3 => walk_at "k00l"))
  | ((with_reducible refine' ev_slT ?k1 ?k2 ?k3); (case k1 => walk_at "k00e"); (case k2 => walk_at "k00o"); (case k3 => walk_at "k00o"))
  | ((with_reducible refine' ev_catT ?k1 ?k2 ?k3); (case k1 => walk_at "k00e"); (case k2 => walk_at "k00e"); (case k3 => walk_at "k00l"))
  | ((with_reducible refine' ev_cat ?k1 ?k2 ?k4 ?k5 ?k3); (case k1 => walk_at "k00e"); (case k2 => walk_at "k00e"); (case k4 => first | exact Or.inl rfl | exact Or.inr rfl); (case k5 => first | exact Or.inl rfl | exact Or.inr rfl); (case k3 => walk_at "k00l"))
  | ((with_reducible refine' ev_tupOf ?k1 ?k2); (case k1 => walk_at "k00e"); (case k2 => first | exact Or.inl rfl | exact Or.inr rfl))
  | ((with_reducible refine' ev_lstOf ?k1); (case k1 => walk_at "k00e"))
  | ((with_reducible refine' ev_intI ?k1); (case k1 => walk_at "k00e"))
  | ((with_reducible refine' ev_intB ?k1); (case k1 => walk_at "k00e"))
  | ((with_reducible refine' ev_and0 ?k1 ?k2); (case k1 => walk_at "k00e"); (case k2 => first | rfl | assumption))
  | ((with_reducible refine' ev_or1 ?k1 ?k2); (case k1 => walk_at "k00e"); (case k2 => first | rfl | assumption))
  | ((with_reducible refine' ev_ifT ?k1 ?k2 ?k3); (case k1 => walk_at "k00t"); (case k2 => first | rfl | assumption); (case k3 => walk_at "k00e"))
  | ((with_reducible refine' ev_ifF ?k1 ?k2 ?k3); (case k1 => walk_at "k00t"); (case k2 => first | rfl | assumption); (case k3 => walk_at "k00e"))
  | ((with_reducible refine' ev_andV ?k1 ?k2); (case k1 => walk_at "k00e"); (case k2 => intro hb; walk_at "k00e"))
  | ((with_reducible refine' ev_orV ?k1 ?k2); (case k1 => walk_at "k00e"); (case k2 => intro hb; walk_at "k00e"))
  | ((with_reducible refine' ev_notV ?k1); (case k1 => walk_at "k00e"))
  | ((with_reducible refine' ev_chain ?k1 ?k2 ?k3); (case k1 => walk_at "k00e"); (case k2 => walk_at "k00e"); (case k3 => walk_at "k00e"))
  | ((with_reducible refine' ev_inT ?k1 ?k2 ?k3 ?k4); (case k1 => walk_at "k00e"); (case k2 => walk_at "k00e"); (case k3 => walk_at "k00w"); (case k4 => rfl))
  | ((with_reducible refine' ev_inN ?k1 ?k2 ?k3 ?k4); (case k1 => walk_at "k00e"); (case k2 => walk_at "k00e"); (case k3 => walk_at "k00w"); (case k4 => rfl))
  | ((with_reducible refine' ev_inI ?k1 ?k2 ?k3); (case k1 => walk_at "k00e"); (case k2 => walk_at "k00e"); (case k3 => exact Or.inr (Or.inr rfl)))
  | ((with_reducible refine' ev_lcW ?k1 ?k2 ?k3 ?k4); (case k1 => walk_at "k00n"); (case k2 => decide); (case k3 => walk_at "k00x"); (case k4 => first | decide | exact of_decide_eq_true rfl))
  | walk_at "k00r"
  | (with_reducible exact ev_c))
local macro_rules | `(tactic| walk_at "k00k") => `(tactic| first
  | exact Coes.nil
  | ((refine' Coes.cons ?k1 ?k2); (case k1 => first | exact coe_rfl | exact coe_b rfl); (case k2 => walk_at "k00k")))
local macro_rules | `(tactic| walk_at "k00i") => `(tactic| first | rfl | assumption)
local macro_rules | `(tactic| walk_at "k00c") => `(tactic| first | trivial | decide | omega | assumption)
local macro_rules | `(tactic| walk_at "k00l") => `(tactic| first | decide | (simp; done) | (simp; omega) | omega | assumption | (simp [rangeR_len2, fzs]; done) | (simp [rangeR_len2, fzs]; omega))
local macro_rules | `(tactic| walk_at "k00s") => `(tactic| first | rfl | decide +kernel | assumption | exact Sh.shaped (by assumption))
local macro_rules | `(tactic| walk_at "k00t") => `(tactic| first
  | ((with_reducible refine' et_test ?k1); (case k1 => walk_at "k00e"))
  | ((with_reducible refine' et_B ?k1); (case k1 => walk_at "k00e"))
  | ((with_reducible refine' et_not ?k1); (case k1 => walk_at "k00t"))
  | ((with_reducible refine' et_and0 ?k1 ?k2); (case k1 => walk_at "k00t"); (case k2 => first | rfl | assumption))
  | ((with_reducible refine' et_or1 ?k1 ?k2); (case k1 => walk_at "k00t"); (case k2 => first | rfl | assumption))
  | ((with_reducible refine' et_and ?k1 ?k2); (case k1 => walk_at "k00t"); (case k2 => intro hb; walk_at "k00t"))
  | ((with_reducible refine' et_or ?k1 ?k2); (case k1 => walk_at "k00t"); (case k2 => intro hb; walk_at "k00t"))
  | (with_reducible exact et_yes))

local macro_rules | `(tactic| walk_at "k00n") => `(tactic| first
  | ((with_reducible refine' evi_rng1 ?k1 ?k2); (case k1 => walk_at "k00e"); (case k2 => walk_at "k00y"))
  | ((with_reducible refine' evi_rng2 ?k1 ?k2 ?k3); (case k1 => walk_at "k00e"); (case k2 => walk_at "k00e"); (case k3 => walk_at "k00y"))
  | ((with_reducible refine' evi_tup ?k1); (case k1 => walk_at "k00e"))
  | ((with_reducible refine' evi_lst ?k1 ?k2); (case k1 => walk_at "k00e"); (case k2 => first | exact Or.inl rfl | exact Or.inr rfl)))
local macro_rules | `(tactic| walk_at "k00y") => `(tactic| first | decide | omega | (simp; omega) | assumption)
local macro_rules | `(tactic| walk_at "k00x") => `(tactic| first | decide | assumption | (rw [rangeR_iv, List.length_map]; unfold iv; rw [List.length_map, List.length_range]; omega))
local macro_rules | `(tactic| walk_at "k00w") => `(tactic| first | exact Or.inr (Or.inr rfl) | exact Or.inl rfl | exact Or.inr (Or.inl rfl))
local macro_rules | `(tactic| walk_at "k00b") => `(tactic| first | decide +kernel | rfl | assumption | (simp; done))
local macro_rules | `(tactic| walk_at "k00g") => `(tactic| first
  | ((with_reducible refine' q_asgF ?k1 ?k2); (case k1 => walk_at "k00e"))
  | ((with_reducible refine' q_guardF ?k1 ?k2 ?k3); (case k1 => walk_at "k00t"); (case k2 => walk_at "k00b"))
  | ((with_reducible refine' q_guardT ?k1 ?k2 ?k3); (case k1 => walk_at "k00t"); (case k2 => walk_at "k00b"))
  | ((with_reducible refine' q_two ?k1 ?k2); (case k1 => walk_at "k00e"))
  | ((with_reducible refine' q_par ?k1 ?k2); (case k1 => walk_at "k00a"))
  | ((with_reducible refine' q_par3 ?k1 ?k2); (case k1 => walk_at "k00a")))
local macro_rules | `(tactic| walk_at "k00f") => `(tactic| ((refine' Ev.is ?k1 ?k2); (case k1 => walk_at "k00e"); (case k2 => rfl)))
local macro_rules | `(tactic| walk_at "k00r") => `(tactic| first
  | ((with_reducible refine' ev_small ?k1 ?k2); (case k1 => walk_at "k00a"); (case k2 => rfl))
  | ((with_reducible refine' ev_bank ?k1); (case k1 => walk_at "k00a"))
  | ((with_reducible refine' ev_table ?k1); (case k1 => walk_at "k00a")))
def same0 (a b : PyData) : Bool :=
  if isNon a || isNon b then isNon a && isNon b
  else if isStr a || isStr b then isStr a && (isStr b && PyData.eqv a b)
  else if !isInt a || !isInt b then false
  else decide (isBool a = isBool b) && PyData.eqv a b
def sameAt (xs ys : List PyData) (d : PyData) : Bool := match d with
  | .int i => same0 (xs.getD i.toNat .none) (ys.getD i.toNat .none)
  | _ => false
def sameD (a b : PyData) : Bool := match a with
  | .tuple xs => match b with
    | .tuple ys => decide ((xs.length : Int) = (ys.length : Int)) && (rangeR 0 (xs.length : Int)).all (sameAt xs ys)
    | b => same0 a b
  | a => same0 a b
def relSame0 (as : List AR) (c : AR) : Prop := ∃ a b x, as = [.f a, x] ∧ isArg x b ∧ (a = .none ∨ ∃ k, a = .int k) ∧ c = .f (.bool (same0 a b))
def relSame (as : List AR) (c : AR) : Prop := ∃ (s : Sta) (b : PyData) (x : AR), as = [.f s.d, x] ∧ isArg x b ∧ (∀ ns, s = .seq ns → ns.length ≤ 1000) ∧ c = .f (.bool (sameD s.d b))
theorem ev_same0 {W : Wd} {H0 : Hp} {ta : TA} {E : List AV} {Ex : XK} {a b : PyData} (h : EvA W H0 ta E [.f a, .f b]) (ha : a = .none ∨ ∃ k, a = .int k) : Ev W H0 (tCall (Pr relSame0) [] Ex ta) E (.f (.bool (same0 a b))) :=
  ev_call h (.cons coe_rfl (.cons coe_rfl .nil)) ⟨a, b, _, rfl, .inl rfl, ha, rfl⟩ trivial
theorem ev_same {W : Wd} {H0 : Hp} {ta : TA} {E : List AV} {Ex : XK} {s : Sta} {a : AR} {d : PyData} (h : EvA W H0 ta E [.f s.d, a]) (ha : a = .f d ∨ ((∃ ds, a.d = some (.list ds)) ∧ a.d = some d)) (hs : ∀ ns, s = .seq ns → ns.length ≤ 1000) :
    Ev W H0 (tCall (Pr relSame) [] Ex ta) E (.f (.bool (sameD s.d d))) := by
  obtain ⟨b, hb, hi⟩ := isArg_coe ha
  exact ev_call h (.cons coe_rfl (.cons hb .nil)) ⟨s, d, _, rfl, hi, hs, rfl⟩ trivial
section
variable {P : Program} {w : World} {K : PySem.W.Frag} {mg : Str → Option Value} {base : Heap} {f : Addr} {fd : FuncData}
theorem sc_is_same : FnScope ["one", "other", "k"] ["one", "other"] (defScope (stm 31)) := ⟨rfl, rfl, rfl, by decide +kernel, rfl, by decide +kernel, by decide +kernel⟩
theorem ok_is_same0 (F : FnP K "is_same" 31 f fd) (B : Bt mg) (N_is_same : Kn K mg "is_same" ["one", "other"] f fd) : FnOk P w K mg base CX0 1 f fd ["one", "other"] (Pr relSame0) := by
  have G_is_same : FnOk P w K mg base CX0 0 f fd ["one", "other"] (Pr fun _ _ => False) := ⟨fun vs H Q E h => by obtain ⟨_, _, h, _⟩ := h; exact h.elim, fun A outer s H args us vs Q E _ _ _ _ h => by obtain ⟨_, _, h, _⟩ := h; exact h.elim⟩
  refine F.ok sc_is_same (fun vs H Q E h => pr_len (fun as c r => by obtain ⟨a, b, x, rfl, _⟩ := r; rfl) h) (fun cdv A outer s H vs Q E hr h => ⟨_, PSs.nox (pss_cons (ps_if (PW.pt (pw_and (pt_val (k_isinstance B.isinstance rfl (pa_cons (pv 0) (pa_cons (k_ty B.tuple rfl boot_tuple') pa_nil)))) (pw_and1 (pt_val (k_isinstance B.isinstance rfl (pa_cons (pv 1) (pa_cons (k_ty B.tuple rfl boot_tuple') pa_nil))))))) (pss_one (ps_ret (pe_and (pe_cmpR op_eq (k_len B.len rfl (pa_cons (pv 0) pa_nil)) (k_len B.len rfl (pa_cons (pv 1) pa_nil)) (nomark _)) (pe_one (k_all rfl B.all rfl (pa_cons (pe_lc (own := [("k", 2)]) (g := gName 2) rfl sc_is_same.nd (pi_range1 (by rfl) B.range (pa_cons (k_len B.len rfl (pa_cons (pv 0) pa_nil)) pa_nil)) (blkOk_by (own := [("k", 2)]) (N := ["one", "other", "k"]) (sc := defScope (stm 31)) (by decide +kernel)) (fun _ _ _ _ _ => pg_name (i := 2) sc_is_same.nd rfl (Or.inl rfl)) (fun _ _ _ _ _ => pts_nil) (fun _ _ _ _ _ => (k_call G_is_same N_is_same hr (by decide) rfl (pa_cons (pe_ix (ix_tup : IxR _ (rIxT K)) (pv 0) (pv 2) (fun _ _ => rfl)) (pa_cons (pe_ix (ix_tup : IxR _ (rIxT K)) (pv 1) (pv 2) (fun _ _ => rfl)) pa_nil))))) pa_nil)))))) pss_nil)
      (pss_cons (ps_if (PW.pt (pw_or (pt_cmpR op_isZ (pv 0) pe_non (nomark _)) (pw_or1 (pt_cmpR op_isZ (pv 1) pe_non (nomark _))))) (pss_one (ps_ret (pe_and (pe_cmpR op_isZ (pv 0) pe_non (nomark _)) (pe_one (pe_cmpR op_isZ (pv 1) pe_non (nomark _)))))) pss_nil)
      (pss_cons (ps_if (PW.pt (pw_or (pt_val (k_isinstance B.isinstance rfl (pa_cons (pv 0) (pa_cons (k_ty B.str rfl boot_str') pa_nil)))) (pw_or1 (pt_val (k_isinstance B.isinstance rfl (pa_cons (pv 1) (pa_cons (k_ty B.str rfl boot_str') pa_nil))))))) (pss_one (ps_ret (pe_and (k_isinstance B.isinstance rfl (pa_cons (pv 0) (pa_cons (k_ty B.str rfl boot_str') pa_nil))) (pe_and (k_isinstance B.isinstance rfl (pa_cons (pv 1) (pa_cons (k_ty B.str rfl boot_str') pa_nil))) (pe_one (pe_cmpR (op_eqD hr.units) (pv 0) (pv 1) (nomark _))))))) pss_nil)
      (pss_cons (ps_if (PW.pt (pw_or (pt_not (pt_val (k_isinstance B.isinstance rfl (pa_cons (pv 0) (pa_cons (k_ty B.int rfl boot_int') pa_nil))))) (pw_or1 (pt_not (pt_val (k_isinstance B.isinstance rfl (pa_cons (pv 1) (pa_cons (k_ty B.int rfl boot_int') pa_nil)))))))) (pss_one (ps_ret pe_bl)) pss_nil)
      (pss_one (ps_ret (pe_and (pe_cmpR op_eq (k_isinstance B.isinstance rfl (pa_cons (pv 0) (pa_cons (k_ty B.bool rfl boot_bool') pa_nil))) (k_isinstance B.isinstance rfl (pa_cons (pv 1) (pa_cons (k_ty B.bool rfl boot_bool') pa_nil))) (nomark _)) (pe_one (pe_cmpR (op_eqD hr.units) (pv 0) (pv 1) (nomark _)))))))))), pr_start h fun as c D r ok k => ?_⟩)
  obtain ⟨a, b, x, rfl, hx, ha, rfl⟩ := r
  rcases hx with rfl | ⟨ds, rfl, rfl⟩
  · rcases ha with rfl | ⟨i, rfl⟩
    · cases b
      all_goals
        repeat walk_at "k00g"
        refine' st_ret (Ev.is ?h ?e) k
        case h => walk_at "k00e"
        case e => rfl
    · cases b
      all_goals
        repeat walk_at "k00g"
        refine' st_ret (Ev.is ?h ?e) k
        case h => walk_at "k00e"
        case e => rfl
  · rcases ha with rfl | ⟨i, rfl⟩
    all_goals
      repeat walk_at "k00g"
      refine' st_ret (Ev.is ?h ?e) k
      case h => walk_at "k00e"
      case e => rfl
theorem ok_is_same (F : FnP K "is_same" 31 f fd) (B : Bt mg) (N_is_same : Kn K mg "is_same" ["one", "other"] f fd) : FnOk P w K mg base CX0 2 f fd ["one", "other"] (Pr relSame) := by
  have G_is_same : FnOk P w K mg base CX0 1 f fd ["one", "other"] (Pr relSame0) := ok_is_same0 F B N_is_same
  refine F.ok sc_is_same (fun vs H Q E h => pr_len (fun as c r => by obtain ⟨a, b, x, rfl, _⟩ := r; rfl) h) (fun cdv A outer s H vs Q E hr h => ⟨_, PSs.nox (pss_cons (ps_if (PW.pt (pw_and (pt_val (k_isinstance B.isinstance rfl (pa_cons (pv 0) (pa_cons (k_ty B.tuple rfl boot_tuple') pa_nil)))) (pw_and1 (pt_val (k_isinstance B.isinstance rfl (pa_cons (pv 1) (pa_cons (k_ty B.tuple rfl boot_tuple') pa_nil))))))) (pss_one (ps_ret (pe_and (pe_cmpR op_eq (k_len B.len rfl (pa_cons (pv 0) pa_nil)) (k_len B.len rfl (pa_cons (pv 1) pa_nil)) (nomark _)) (pe_one (k_all rfl B.all rfl (pa_cons (pe_lc (own := [("k", 2)]) (g := gName 2) rfl sc_is_same.nd (pi_range1 (by rfl) B.range (pa_cons (k_len B.len rfl (pa_cons (pv 0) pa_nil)) pa_nil)) (blkOk_by (own := [("k", 2)]) (N := ["one", "other", "k"]) (sc := defScope (stm 31)) (by decide +kernel)) (fun _ _ _ _ _ => pg_name (i := 2) sc_is_same.nd rfl (Or.inl rfl)) (fun _ _ _ _ _ => pts_nil) (fun _ _ _ _ _ => (k_call G_is_same N_is_same hr (by decide) rfl (pa_cons (pe_ix (ix_tup : IxR _ (rIxT K)) (pv 0) (pv 2) (fun _ _ => rfl)) (pa_cons (pe_ix (ix_tup : IxR _ (rIxT K)) (pv 1) (pv 2) (fun _ _ => rfl)) pa_nil))))) pa_nil)))))) pss_nil)
      (pss_cons (ps_if (PW.pt (pw_or (pt_cmpR op_isZ (pv 0) pe_non (nomark _)) (pw_or1 (pt_cmpR op_isZ (pv 1) pe_non (nomark _))))) (pss_one (ps_ret (pe_and (pe_cmpR op_isZ (pv 0) pe_non (nomark _)) (pe_one (pe_cmpR op_isZ (pv 1) pe_non (nomark _)))))) pss_nil)
      (pss_cons (ps_if (PW.pt (pw_or (pt_val (k_isinstance B.isinstance rfl (pa_cons (pv 0) (pa_cons (k_ty B.str rfl boot_str') pa_nil)))) (pw_or1 (pt_val (k_isinstance B.isinstance rfl (pa_cons (pv 1) (pa_cons (k_ty B.str rfl boot_str') pa_nil))))))) (pss_one (ps_ret (pe_and (k_isinstance B.isinstance rfl (pa_cons (pv 0) (pa_cons (k_ty B.str rfl boot_str') pa_nil))) (pe_and (k_isinstance B.isinstance rfl (pa_cons (pv 1) (pa_cons (k_ty B.str rfl boot_str') pa_nil))) (pe_one (pe_cmpR (op_eqD hr.units) (pv 0) (pv 1) (nomark _))))))) pss_nil)
      (pss_cons (ps_if (PW.pt (pw_or (pt_not (pt_val (k_isinstance B.isinstance rfl (pa_cons (pv 0) (pa_cons (k_ty B.int rfl boot_int') pa_nil))))) (pw_or1 (pt_not (pt_val (k_isinstance B.isinstance rfl (pa_cons (pv 1) (pa_cons (k_ty B.int rfl boot_int') pa_nil)))))))) (pss_one (ps_ret pe_bl)) pss_nil)
      (pss_one (ps_ret (pe_and (pe_cmpR op_eq (k_isinstance B.isinstance rfl (pa_cons (pv 0) (pa_cons (k_ty B.bool rfl boot_bool') pa_nil))) (k_isinstance B.isinstance rfl (pa_cons (pv 1) (pa_cons (k_ty B.bool rfl boot_bool') pa_nil))) (nomark _)) (pe_one (pe_cmpR (op_eqD hr.units) (pv 0) (pv 1) (nomark _)))))))))), pr_start h fun as c D r ok k => ?_⟩)
  obtain ⟨s, b, x, rfl, hx, hl, rfl⟩ := r
  rcases hx with rfl | ⟨ds, rfl, rfl⟩
  · cases s with
    | non =>
      cases b
      all_goals
        repeat walk_at "k00g"
        refine' st_ret (Ev.is ?h ?e) k
        case h => walk_at "k00e"
        case e => rfl
    | num i =>
      cases b
      all_goals
        repeat walk_at "k00g"
        refine' st_ret (Ev.is ?h ?e) k
        case h => walk_at "k00e"
        case e => rfl
    | seq ns =>
      have hl := hl ns rfl
      cases b with
      | tuple ys =>
        refine' q_guardT (b := true) (EvT.is ?g ?g2) rfl (st_ret (Ev.is ?h ?e) k)
        case g => walk_at "k00t"
        case g2 => rfl
        case h =>
          refine ev_andV (y := ((rangeR 0 (((ns.map PyData.int).length : Nat) : Int)).map (sameAt (ns.map .int) ys)).all id) (ev_eqI (ev_lenB (ds := ns.map .int) (ev_dat rfl) (.inr rfl)) (ev_lenB (ev_dat rfl) (.inr rfl))) fun he => ?_
          have he := of_decide_eq_true he
          have hb : 0 ≤ (((ns.map PyData.int).length : Nat) : Int) ∧ (((ns.map PyData.int).length : Nat) : Int) ≤ 100000 := by
            rw [List.length_map]
            omega
          refine ev_all (bs := (rangeR 0 (((ns.map PyData.int).length : Nat) : Int)).map (sameAt (ns.map .int) ys)) (ev_lc1 (fun d => .bool (sameAt (ns.map .int) ys d)) (evi_rng1 (ev_lenB (ev_dat rfl) (.inr rfl)) hb) (by decide) (by rw [rangeR_len, List.length_map]; omega) fun d hd => ?_) (by rw [List.map_map]; rfl)
          rw [rangeR_iv] at hd
          obtain ⟨i, hi, rfl⟩ := List.mem_map.mp hd
          rw [mem_iv] at hi
          have e : ((i.toNat : Nat) : Int) = i := by omega
          have h1 : i.toNat < (ns.map PyData.int).length := by omega
          have h2 : i.toNat < ys.length := by omega
          have a1 : atI (ns.map PyData.int) i = some ((ns.map PyData.int).getD i.toNat .none) := by
            rw [← e]
            refine atI_nat ?_
            rw [Int.toNat_natCast, List.getD_eq_getElem?_getD, List.getElem?_eq_getElem h1]
            rfl
          have a2 : atI ys i = some (ys.getD i.toNat .none) := by
            rw [← e]
            refine atI_nat ?_
            rw [Int.toNat_natCast, List.getD_eq_getElem?_getD, List.getElem?_eq_getElem h2]
            rfl
          have a3 : ∃ k, (ns.map PyData.int).getD i.toNat .none = .int k := by
            rw [List.getD_eq_getElem?_getD, List.getElem?_eq_getElem h1]
            exact ⟨ns[i.toNat]'(by simpa using h1), by simp⟩
          exact ev_same0 (eva_cons (ev_ixT (ds := ns.map PyData.int) (ev_dat rfl) (ev_dat rfl) a1) (eva_cons (ev_ixT (ds := ys) (ev_dat rfl) (ev_dat rfl) a2) eva_nil)) (.inr a3)
        case e =>
          show _ = AR.f (.bool (decide ((((ns.map PyData.int).length : Nat) : Int) = (ys.length : Int)) && (rangeR 0 (((ns.map PyData.int).length : Nat) : Int)).all (sameAt (ns.map .int) ys)))
          rw [List.all_map]
          rfl
      | _ =>
        repeat walk_at "k00g"
        refine' st_ret (Ev.is ?h ?e) k
        case h => walk_at "k00e"
        case e => rfl
  · cases s
    all_goals
      repeat walk_at "k00g"
      refine' st_ret (Ev.is ?h ?e) k
      case h => walk_at "k00e"
      case e => rfl
end
def Th.good (t : Th) (d : PyData) : Bool := t.states.any fun s => sameD s.d d
def relNeedS (as : List AR) (c : AR) : Prop := ∃ (t : Th) (a : AR) (d : PyData), t.ok ∧ as = [.f t.d, a] ∧ isArg a d ∧ t.good d = true ∧ c = .f .none
def badState (CS : Addr) (as : List AR) (C : Addr) : Prop := ∃ (t : Th) (a : AR) (d : PyData), t.ok ∧ as = [.f t.d, a] ∧ isArg a d ∧ t.good d = false ∧ C = CS
def badAppl (CS CC : Addr) (as : List AR) (C : Addr) : Prop := ∃ (t : Th) (a b : AR) (d e : PyData), t.ok ∧ as = [.f t.d, a, b] ∧ isArg a d ∧ isArg b e ∧ Vl e ∧ ((t.good d = false ∧ C = CS) ∨ (t.good d = true ∧ t.isCall e = false ∧ C = CC))
def relAppl (as : List AR) (c : AR) : Prop := ∃ (t : Th) (s : Sta) (l : Cal), t.ok ∧ s ∈ t.states ∧ l ∈ t.calls ∧ as = [.f t.d, .f s.d, .f l.d] ∧ c = .f (t.stepD s l)
def Th.run (t : Th) : Sta → List Cal → List PyData × Sta
  | s, [] => ([], s)
  | s, c :: cs => ((t.step s c).2 :: (t.run (t.step s c).1 cs).1, (t.run (t.step s c).1 cs).2)
def Th.runD (t : Th) (cs : List Cal) : PyData := .tuple [.tuple (t.run t.first cs).1, (t.run t.first cs).2.d]
def relRun (as : List AR) (c : AR) : Prop := ∃ (t : Th) (cs : List Cal), t.ok ∧ (∀ l ∈ cs, l ∈ t.calls) ∧ cs.length ≤ 100 ∧ as = [.f t.d, .f (.tuple (cs.map Cal.d))] ∧ c = .f (t.runD cs)
def Th.isRow (t : Th) (d : PyData) : Bool := match d with
  | .tuple ds => ds.all t.isCall
  | _ => false
def badRow (CC : Addr) (as : List AR) (C : Addr) : Prop := ∃ (t : Th) (a : AR) (d : PyData), t.ok ∧ as = [.f t.d, a] ∧ isArg a d ∧ (∀ ds, d = .tuple ds → ds.length ≤ 1000 ∧ ∀ x ∈ ds, Vl x) ∧ t.isRow d = false ∧ C = CC
/-! of states -/
theorem same0_self {d : PyData} (h : d = .none ∨ ∃ k, d = .int k) : same0 d d = true := by
  rcases h with rfl | ⟨k, rfl⟩
  · rfl
  · simp [same0, isNon, isStr, isInt, isBool, PyData.eqv]
theorem sameD_self (s : Sta) : sameD s.d s.d = true := by
  cases s with
  | non => rfl
  | num k => exact same0_self (.inr ⟨k, rfl⟩)
  | seq ns =>
    show (decide ((((ns.map PyData.int).length : Nat) : Int) = ((ns.map PyData.int).length : Int)) && (rangeR 0 (((ns.map PyData.int).length : Nat) : Int)).all (sameAt (ns.map .int) (ns.map .int))) = true
    rw [decide_eq_true rfl, Bool.true_and, List.all_eq_true]
    intro d hd
    rw [rangeR_iv] at hd
    obtain ⟨i, hi, rfl⟩ := List.mem_map.mp hd
    rw [mem_iv] at hi
    have h1 : i.toNat < (ns.map PyData.int).length := by omega
    refine same0_self (.inr ?_)
    rw [List.getD_eq_getElem?_getD, List.getElem?_eq_getElem h1]
    exact ⟨ns[i.toNat]'(by simpa using h1), by simp⟩
theorem Th.good_of {t : Th} {s : Sta} (h : s ∈ t.states) : t.good s.d = true := List.any_eq_true.mpr ⟨s, h, sameD_self s⟩
theorem okS_len {t : Th} {s : Sta} (h : t.ok) (hs : t.okS s) : ∀ ns, s = .seq ns → ns.length ≤ 1000 := by
  intro ns e
  subst e
  cases t with
  | stack r m => have := hs.1; have := h.1; omega
  | queue r m => have := hs.1; have := h.1; omega
  | set m => have := (sub_bound h hs).1; omega
  | bank bs => have := hs.1; have := h.1; omega
  | _ => exact hs.elim
theorem eqv_nil (l : List PyData) : PyData.eqv (.list l) (.list []) = l.isEmpty := by
  cases l <;> rfl
/-! of calls -/
theorem Th.isCall_of {t : Th} {l : Cal} (h : l ∈ t.calls) : t.isCall l.d = true := by
  have h1 : plainD l.d = true := by
    show (l.ns.map PyData.int).all (fun x => isInt x && !isBool x) = true
    rw [List.all_eq_true]
    intro d hd
    obtain ⟨k, _, rfl⟩ := List.mem_map.mp hd
    rfl
  have h2 : ((t.callsU.map Cal.d).any fun z => PyData.eqv z l.d) = true := List.any_eq_true.mpr ⟨l.d, List.mem_map.mpr ⟨l, Th.mem_calls.mp h, rfl⟩, by rw [Cal.eqv]; simp⟩
  unfold Th.isCall
  rw [h1, h2]
  rfl
theorem cal_vl {t : Th} {l : Cal} (h : l ∈ t.calls) : Vl l.d := by
  have hc := Th.okC_of h
  refine ⟨(ShAll.cons (Sh.str (Th.okC_str hc)) (ShAll.ints l.ns)).tup, fun ds e => ?_⟩
  cases e
  have : l.ns.length ≤ 3 := by
    cases t with
    | counter m => rcases hc with rfl | ⟨k, hk, rfl⟩ <;> simp
    | register m => rcases hc with rfl | ⟨k, hk, rfl | rfl⟩ <;> simp
    | stack r m => rcases hc with rfl | ⟨k, hk, rfl⟩ <;> simp
    | queue r m => rcases hc with rfl | ⟨k, hk, rfl⟩ <;> simp
    | set m => rcases hc with ⟨k, hk, rfl | rfl | rfl⟩ <;> simp
    | agree m => rcases hc with ⟨k, hk, rfl⟩; simp
    | bank bs => rcases hc with ⟨k, hk, rfl⟩ | ⟨a, b, x, _, _, _, _, rfl⟩ <;> simp
    | table rows => rcases hc with ⟨k, hk, rfl⟩; simp
  simp
  omega
section
variable {W : Wd} {H0 : Hp} {ta : TA} {E : List AV} {Ex : XK} {CS CC : Addr} {a : AR} {d : PyData} {t : Th} {s : Sta} {l : Cal}
theorem ev_needS (h : EvA W H0 ta E [.f t.d, a]) (ht : t.ok) (ha : a = .f d ∨ ((∃ ds, a.d = some (.list ds)) ∧ a.d = some d)) (hg : t.good d = true) : Ev W H0 (tCall (PrX relNeedS (badState CS)) [] Ex ta) E (.f .none) := by
  obtain ⟨b, hb, hi⟩ := isArg_coe ha
  exact ev_callX h (.cons coe_rfl (.cons hb .nil)) ⟨t, _, d, ht, rfl, hi, hg, rfl⟩ trivial
theorem evx_needS (h : EvA W H0 ta E [.f t.d, a]) (ht : t.ok) (ha : a = .f d ∨ ((∃ ds, a.d = some (.list ds)) ∧ a.d = some d)) (hg : t.good d = false) : EvX W H0 (tCall (PrX relNeedS (badState CS)) [] Ex ta) E (fun H' => Ex (.ref CS) none H') := by
  obtain ⟨b, hb, hi⟩ := isArg_coe ha
  exact evx_call h (.cons coe_rfl (.cons hb .nil)) ⟨t, _, d, ht, rfl, hi, hg, rfl⟩
theorem ev_run {cs : List Cal} (h : EvA W H0 ta E [.f t.d, .f (.tuple (cs.map Cal.d))]) (ht : t.ok) (hc : ∀ l ∈ cs, l ∈ t.calls) (hl : cs.length ≤ 100) : Ev W H0 (tCall (Pr relRun) [] Ex ta) E (.f (t.runD cs)) :=
  ev_call h (.cons coe_rfl (.cons coe_rfl .nil)) ⟨t, cs, ht, hc, hl, rfl, rfl⟩ trivial
end
section
variable {P : Program} {w : World} {K : PySem.W.Frag} {mg : Str → Option Value} {base : Heap} {f : Addr} {fd : FuncData}
theorem sc_need_state : FnScope ["thing", "value", "one"] ["thing", "value"] (defScope (stm 32)) := ⟨rfl, rfl, rfl, by decide +kernel, rfl, by decide +kernel, by decide +kernel⟩
theorem sc_applied : FnScope ["thing", "state", "call"] ["thing", "state", "call"] (defScope (stm 33)) := ⟨rfl, rfl, rfl, by decide +kernel, rfl, by decide +kernel, by decide +kernel⟩
theorem sc_replay : FnScope ["thing", "row", "call", "state", "answers", "answer"] ["thing", "row"] (defScope (stm 34)) := ⟨rfl, rfl, rfl, by decide +kernel, rfl, by decide +kernel, by decide +kernel⟩
theorem sc_replayed : FnScope ["thing", "row", "call"] ["thing", "row"] (defScope (stm 35)) := ⟨rfl, rfl, rfl, by decide +kernel, rfl, by decide +kernel, by decide +kernel⟩
theorem need_test {W : Wd} {H0 : Hp} {E : List AV} {t : Th} {wi : TI} {tt : TT} {j : Nat} {vs : List Nat} {d : PyData} (ht : t.ok) (hi : EvI W H0 wi E ((t.states.map Sta.d).map .f)) (hj : j ∈ vs) (hjl : j < (wipeE E vs).length)
    (hs : ∀ s ∈ t.states, EvT W H0 tt ((wipeE E vs).set j (.dat s.d)) (sameD s.d d)) : EvT W H0 (tTest (tOp (rEqD K) (tLc wi (gName j) tt (tVar j) vs) (tLst tNil))) E (!t.good d) := by
  have hl := (Th.states_inv ht).len ht
  refine (et_test (ev_eqD (ev_lc (src := t.states.map Sta.d) (fun x => sameD x d) id hi hj (by rw [List.length_map]; omega) (fun x hx => ?_) fun x _ _ => ev_dat (by rw [List.getElem?_set_self hjl]; rfl)) (ev_lst eva_nil rfl (by decide)) rfl rfl ?_ rfl)).is ?_
  · obtain ⟨s, hs2, rfl⟩ := List.mem_map.mp hx
    exact hs s hs2
  · refine Sh.shaped (n := 3) (ShAll.of fun x hx => ?_).lst
    rw [List.map_id] at hx
    obtain ⟨s, _, rfl⟩ := List.mem_map.mp (List.mem_filter.mp hx).1
    exact s.sh
  · show PyData.eqv (.list _) (.list []) = _
    rw [eqv_nil, List.map_id]
    unfold Th.good
    rw [Bool.eq_iff_iff, List.isEmpty_iff, List.filter_eq_nil_iff, Bool.not_eq_true', List.any_eq_false]
    constructor
    · intro h s hs2
      exact h s.d (List.mem_map.mpr ⟨s, hs2, rfl⟩)
    · intro h x hx
      obtain ⟨s, hs2, rfl⟩ := List.mem_map.mp hx
      exact h s hs2
theorem ok_need_state {f1 f2 : Addr} {fd1 fd2 : FuncData} {CS : Addr} (F : FnP K "need_state" 32 f fd) (B : Bt mg) (Z_BadState : Ze K mg "BadState" CS)
    (G_states_of : FnOk P w K mg base CX0 3 f1 fd1 ["thing"] (Pr relStates)) (N_states_of : Kn K mg "states_of" ["thing"] f1 fd1) (G_is_same : FnOk P w K mg base CX0 2 f2 fd2 ["one", "other"] (Pr relSame)) (N_is_same : Kn K mg "is_same" ["one", "other"] f2 fd2) :
    FnOk P w K mg base (L2.CX P w) 4 f fd ["thing", "value"] (PrX relNeedS (badState CS)) := by
  refine F.ok sc_need_state (fun vs H Q E h => prX_len (fun as c r => by obtain ⟨t, a, d, _, rfl, _⟩ := r; rfl) (fun as c r => by obtain ⟨t, a, d, _, rfl, _⟩ := r; rfl) h) (fun cdv A outer s H vs Q E hr h => ⟨_, (pss_one (ps_if (pt_cmpR (op_eqD hr.units) (pe_lc (own := [("one", 2)]) (g := gName 2) rfl sc_need_state.nd (pi_list (k_call G_states_of N_states_of hr (by decide) rfl (pa_cons (pv 0) pa_nil))) (blkOk_by (own := [("one", 2)]) (N := ["thing", "value", "one"]) (sc := defScope (stm 32)) (by decide +kernel)) (fun _ _ _ _ _ => pg_name (i := 2) sc_need_state.nd rfl (Or.inl rfl)) (fun _ _ _ _ _ => pts_one (pt_val (k_call G_is_same N_is_same hr (by decide) rfl (pa_cons (pv 2) (pa_cons (pv 1) pa_nil))))) (fun _ _ _ _ _ => (pv 2))) (pe_lst pa_nil) (nomark _)) (pss_one (ps_raise rfl (takes_of rfl rfl rfl rfl) (pmk_bare PySem.F.excBase_ValueError Z_BadState.q Z_BadState.g Z_BadState.k (raises_own Z_BadState.b Z_BadState.t) rfl))) pss_nil)), pr_startX h (fun as c D r ok k nx => ?_) fun as C D r z => ?_⟩)
  · obtain ⟨t, a, d, ht, rfl, ha, hg, rfl⟩ := r
    refine st_if (need_test (d := d) ht (evi_lst (ev_states (eva_cons (ev_dat rfl) eva_nil) ht) (.inl rfl)) (by decide) (of_decide_eq_true rfl) fun s hs => ?_) (fun hb => by rw [hg] at hb; cases hb) fun _ => st_next fun σ H' S => nx rfl σ H' S.nx
    obtain ⟨x, hx, hx1, hx2⟩ := ev_argV (W := W0) (H0 := H) (E := (wipeE (startE ["thing", "value", "one"] [.f t.d, a]) [2]).set 2 (.dat s.d)) (i := 1) rfl (argV_of ha)
    exact et_B (ev_same (eva_cons (ev_dat rfl) (eva_cons hx eva_nil)) hx2 (okS_len ht ((Th.states_inv ht).ok s hs)))
  · obtain ⟨t, a, d, ht, rfl, ha, hg, rfl⟩ := r
    refine st_if (need_test (d := d) ht (evi_lst (ev_states (eva_cons (ev_dat rfl) eva_nil) ht) (.inl rfl)) (by decide) (of_decide_eq_true rfl) fun s hs => ?_) (fun _ => st_raise z) fun hb => by rw [hg] at hb; cases hb
    obtain ⟨x, hx, hx1, hx2⟩ := ev_argV (W := W0) (H0 := H) (E := (wipeE (startE ["thing", "value", "one"] [.f t.d, a]) [2]).set 2 (.dat s.d)) (i := 1) rfl (argV_of ha)
    exact et_B (ev_same (eva_cons (ev_dat rfl) (eva_cons hx eva_nil)) hx2 (okS_len ht ((Th.states_inv ht).ok s hs)))
theorem ok_applied {f1 f2 f3 f4 : Addr} {fd1 fd2 fd3 fd4 : FuncData} {CO CS CC : Addr} (F : FnP K "applied" 33 f fd) (B : Bt mg) (G_need_object : FnOk P w K mg base (L2.CX P w) 4 f1 fd1 ["value"] (PrX relNeed (badObj CO))) (N_need_object : Kn K mg "need_object" ["value"] f1 fd1)
    (G_need_state : FnOk P w K mg base (L2.CX P w) 4 f2 fd2 ["thing", "value"] (PrX relNeedS (badState CS))) (N_need_state : Kn K mg "need_state" ["thing", "value"] f2 fd2)
    (G_need_call : FnOk P w K mg base (L2.CX P w) 4 f3 fd3 ["thing", "value"] (PrX relNeedC (badCall CC))) (N_need_call : Kn K mg "need_call" ["thing", "value"] f3 fd3)
    (G_applied_in : FnOk P w K mg base CX0 2 f4 fd4 ["thing", "state", "call"] (Pr relStep)) (N_applied_in : Kn K mg "applied_in" ["thing", "state", "call"] f4 fd4) : FnOk P w K mg base (L2.CX P w) 5 f fd ["thing", "state", "call"] (PrX relAppl (badAppl CS CC)) := by
  refine F.ok sc_applied (fun vs H Q E h => prX_len (fun as c r => by obtain ⟨t, s, l, _, _, _, rfl, _⟩ := r; rfl) (fun as c r => by obtain ⟨t, a, b, d, e, _, rfl, _⟩ := r; rfl) h) (fun cdv A outer s H vs Q E hr h => ⟨_, (pss_cons (ps_expr (k_callX (takes_of rfl rfl rfl rfl) G_need_object N_need_object hr (by decide) rfl (pa_cons (pv 0) pa_nil)))
      (pss_cons (ps_expr (k_callX (takes_of rfl rfl rfl rfl) G_need_state N_need_state hr (by decide) rfl (pa_cons (pv 0) (pa_cons (pv 1) pa_nil))))
      (pss_cons (ps_expr (k_callX (takes_of rfl rfl rfl rfl) G_need_call N_need_call hr (by decide) rfl (pa_cons (pv 0) (pa_cons (pv 2) pa_nil))))
      (pss_one (ps_ret (k_call G_applied_in N_applied_in hr (by decide) rfl (pa_cons (pv 0) (pa_cons (pv 1) (pa_cons (pv 2) pa_nil))))))))), pr_startX h (fun as c D r ok k nx => ?_) fun as C D r z => ?_⟩)
  · obtain ⟨t, s, l, ht, hs, hl, rfl, rfl⟩ := r
    refine q_drop (ev_need (eva_cons (ev_dat rfl) eva_nil) (.inl rfl) (Th.kind ht)) (q_drop (ev_needS (eva_cons (ev_dat rfl) (eva_cons (ev_dat rfl) eva_nil)) ht (.inl rfl) (Th.good_of hs)) (q_drop (ev_needC (eva_cons (ev_dat rfl) (eva_cons (ev_dat rfl) eva_nil)) ht (.inl rfl) (cal_vl hl) (Th.isCall_of hl)) ?_))
    exact st_ret (ev_step (eva_cons (ev_dat rfl) (eva_cons (ev_dat rfl) (eva_cons (ev_dat rfl) eva_nil))) ht ((Th.states_inv ht).ok s hs) (Th.okC_of hl)) k
  · obtain ⟨t, a, b, d, e, ht, rfl, ha, hb, hv, hc⟩ := r
    obtain ⟨x, hx, _, hx2⟩ := ev_argV (W := W0) (H0 := H) (E := startE ["thing", "state", "call"] [.f t.d, a, b]) (i := 1) rfl (argV_of ha)
    obtain ⟨y, hy, _, hy2⟩ := ev_argV (W := W0) (H0 := H) (E := startE ["thing", "state", "call"] [.f t.d, a, b]) (i := 2) rfl (argV_of hb)
    refine q_drop (ev_need (eva_cons (ev_dat rfl) eva_nil) (.inl rfl) (Th.kind ht)) ?_
    rcases hc with ⟨hg, rfl⟩ | ⟨hg, hc, rfl⟩
    · exact q_dropX (evx_needS (eva_cons (ev_dat rfl) (eva_cons hx eva_nil)) ht hx2 hg) z
    · exact q_drop (ev_needS (eva_cons (ev_dat rfl) (eva_cons hx eva_nil)) ht hx2 hg) (q_dropX (evx_needC (eva_cons (ev_dat rfl) (eva_cons hy eva_nil)) ht hy2 hv hc) z)
/-- rows from their ends -/
theorem run_snoc (t : Th) : ∀ (cs : List Cal) (s : Sta) (c : Cal), t.run s (cs ++ [c]) = ((t.run s cs).1 ++ [(t.step (t.run s cs).2 c).2], (t.step (t.run s cs).2 c).1)
  | [], s, c => rfl
  | b :: cs, s, c => by
    show ((t.step s b).2 :: (t.run (t.step s b).1 (cs ++ [c])).1, (t.run (t.step s b).1 (cs ++ [c])).2) = _
    rw [run_snoc t cs]
    rfl
theorem run_ok {t : Th} (h : t.ok) : ∀ (cs : List Cal) (s : Sta), t.okS s → (∀ l ∈ cs, l ∈ t.calls) → t.okS (t.run s cs).2
  | [], s, hs, _ => hs
  | c :: cs, s, hs, hc => run_ok h cs _ (Th.step_ok h hs (hc c List.mem_cons_self)) fun l hl => hc l (List.mem_cons_of_mem _ hl)
theorem run_len (t : Th) : ∀ (cs : List Cal) (s : Sta), (t.run s cs).1.length = cs.length
  | [], _ => rfl
  | c :: cs, s => by
    show (t.run (t.step s c).1 cs).1.length + 1 = _
    rw [run_len t cs]
    rfl
theorem ok_replay {f1 f2 : Addr} {fd1 fd2 : FuncData} (F : FnP K "replay" 34 f fd) (B : Bt mg) (G_first_in : FnOk P w K mg base CX0 1 f1 fd1 ["thing"] (Pr relFirst)) (N_first_in : Kn K mg "first_in" ["thing"] f1 fd1)
    (G_applied_in : FnOk P w K mg base CX0 2 f2 fd2 ["thing", "state", "call"] (Pr relStep)) (N_applied_in : Kn K mg "applied_in" ["thing", "state", "call"] f2 fd2) : FnOk P w K mg base CX0 3 f fd ["thing", "row"] (Pr relRun) := by
  refine F.ok sc_replay (fun vs H Q E h => pr_len (fun as c r => by obtain ⟨t, cs, _, _, _, rfl, _⟩ := r; rfl) h) (fun cdv A outer s H vs Q E hr h => ⟨_, PSs.nox (pss_cons (ps_par (i := 3) (j := 4) rfl sc_replay.nd rfl rfl (by decide) rfl rfl (pa_cons (k_call G_first_in N_first_in hr (by decide) rfl (pa_cons (pv 0) pa_nil)) (pa_cons (pe_tup pa_nil) pa_nil)) (by rfl))
      (pss_cons (ps_for PassesOwn.never rfl (pi_tup (pv 1)) (pg_name (i := 2) sc_replay.nd rfl (Or.inl rfl)) (pss_cons (ps_asg (k_call G_applied_in N_applied_in hr (by decide) rfl (pa_cons (pv 0) (pa_cons (pv 3) (pa_cons (pv 2) pa_nil)))) (pg_tup rfl (pgs_cons (pg_name (i := 3) sc_replay.nd rfl (Or.inl rfl)) (pgs_cons (pg_name (i := 5) sc_replay.nd rfl (Or.inl rfl)) pgs_nil))))
      (pss_one (ps_set (i := 4) sc_replay.nd rfl (Or.inl rfl) (pe_tup (StX.pa_star (pv 4) (pa_cons (pv 5) pa_nil)))))))
      (pss_one (ps_ret (pe_tup (pa_cons (pv 4) (pa_cons (pv 3) pa_nil))))))), pr_start h fun as c D r ok k => ?_⟩)
  obtain ⟨t, cs, ht, hc, hl, rfl, rfl⟩ := r
  refine' q_par (x := t.first.d) (y := .tuple []) (eva_cons (ev_first (by walk_at "k00a") ht) (eva_cons (ev_tup eva_nil rfl (by decide)) eva_nil)) ?nx0
  refine' q_for (E1 := [.dat t.d, .dat (.tuple (cs.map Cal.d)), .no, .dat (t.run t.first (cs.take 0)).2.d, .dat (.tuple (t.run t.first (cs.take 0)).1), .no]) (fun i E' => E' = [.dat t.d, .dat (.tuple (cs.map Cal.d)), .no, .dat (t.run t.first (cs.take i)).2.d, .dat (.tuple (t.run t.first (cs.take i)).1), .no]) (evi_tup (ev_dat rfl)) (fun i E' p => by rw [p]; rfl) rfl (.same (.same (.no (.same (.same (.no .nil)))))) (fun H1 n1 i a E' ha p => ?turn) fun E' p => ?done
  case done =>
    subst p
    rw [List.length_map, List.length_map, List.take_length]
    refine' st_ret (Ev.is ?h ?e) k
    case h => walk_at "k00e"
    case e => rfl
  case turn =>
    subst p
    obtain ⟨l, hl2, rfl⟩ : ∃ l, cs[i]? = some l ∧ a = .f l.d := by
      rw [List.getElem?_map, List.getElem?_map] at ha
      obtain ⟨r, e1, e2⟩ := Option.map_eq_some_iff.mp ha
      obtain ⟨l, e3, e4⟩ := Option.map_eq_some_iff.mp e1
      exact ⟨l, e3, by rw [← e2, ← e4]⟩
    have hlm : l ∈ cs := List.mem_of_getElem? hl2
    have ok2 := run_ok ht (cs.take i) t.first (Th.first_ok ht) fun x hx => hc x (List.mem_of_mem_take hx)
    have rl := run_len t (cs.take i) t.first
    have rs : t.run t.first (cs.take (i + 1)) = ((t.run t.first (cs.take i)).1 ++ [(t.step (t.run t.first (cs.take i)).2 l).2], (t.step (t.run t.first (cs.take i)).2 l).1) := by rw [take_snoc hl2, run_snoc]
    refine' q_two (d := (t.step (t.run t.first (cs.take i)).2 l).1.d) (e := (t.step (t.run t.first (cs.take i)).2 l).2) (ev_step (eva_cons (ev_dat rfl) (eva_cons (ev_dat rfl) (eva_cons (ev_dat rfl) eva_nil))) ht ok2 (Th.okC_of (hc l hlm))) ?nx1
    refine' st_asgF (d := .tuple ((t.run t.first (cs.take i)).1 ++ [(t.step (t.run t.first (cs.take i)).2 l).2])) (Ev.is (ev_tup (as := (t.run t.first (cs.take i)).1.map .f ++ [.f (t.step (t.run t.first (cs.take i)).2 l).2]) (eva_star (ev_dat rfl) (eva_cons (ev_dat rfl) eva_nil)) (by rw [allF_app]; rfl) ?len) (by rw [fzs_app]; rfl)) fun σ H S => ?fin
    case len =>
      rw [List.length_append, List.length_map, rl, List.length_take]
      simp
      omega
    case fin =>
      refine ⟨_, rfl, ?_⟩
      rw [rs]
      exact S.wk (.same (.same (.no (.same (.same (.no .nil))))))
theorem ok_replayed {f1 f2 f3 : Addr} {fd1 fd2 fd3 : FuncData} {CO CC : Addr} (F : FnP K "replayed" 35 f fd) (B : Bt mg) (Z_BadCall : Ze K mg "BadCall" CC) (G_need_object : FnOk P w K mg base (L2.CX P w) 4 f1 fd1 ["value"] (PrX relNeed (badObj CO))) (N_need_object : Kn K mg "need_object" ["value"] f1 fd1)
    (G_is_call_of : FnOk P w K mg base CX0 3 f2 fd2 ["thing", "value"] (Pr relCallOf)) (N_is_call_of : Kn K mg "is_call_of" ["thing", "value"] f2 fd2) (G_replay : FnOk P w K mg base CX0 3 f3 fd3 ["thing", "row"] (Pr relRun)) (N_replay : Kn K mg "replay" ["thing", "row"] f3 fd3) :
    FnOk P w K mg base (L2.CX P w) 5 f fd ["thing", "row"] (PrX relRun (badRow CC)) := by
  refine F.ok sc_replayed (fun vs H Q E h => prX_len (fun as c r => by obtain ⟨t, cs, _, _, _, rfl, _⟩ := r; rfl) (fun as c r => by obtain ⟨t, a, d, _, rfl, _⟩ := r; rfl) h) (fun cdv A outer s H vs Q E hr h => ⟨_, (pss_cons (ps_expr (k_callX (takes_of rfl rfl rfl rfl) G_need_object N_need_object hr (by decide) rfl (pa_cons (pv 0) pa_nil)))
      (pss_cons (ps_if (PW.pt (pw_or (pt_not (pt_val (k_isinstance B.isinstance rfl (pa_cons (pv 1) (pa_cons (k_ty B.tuple rfl boot_tuple') pa_nil))))) (pw_or1 (pt_not (pt_val (k_all rfl B.all rfl (pa_cons (pe_lc (own := [("call", 2)]) (g := gName 2) rfl sc_replayed.nd (pi_tup (pv 1)) (blkOk_by (own := [("call", 2)]) (N := ["thing", "row", "call"]) (sc := defScope (stm 35)) (by decide +kernel)) (fun _ _ _ _ _ => pg_name (i := 2) sc_replayed.nd rfl (Or.inl rfl)) (fun _ _ _ _ _ => pts_nil) (fun _ _ _ _ _ => (k_call G_is_call_of N_is_call_of hr (by decide) rfl (pa_cons (pv 0) (pa_cons (pv 2) pa_nil))))) pa_nil))))))) (pss_one (ps_raise rfl (takes_of rfl rfl rfl rfl) (pmk_bare PySem.F.excBase_ValueError Z_BadCall.q Z_BadCall.g Z_BadCall.k (raises_own Z_BadCall.b Z_BadCall.t) rfl))) pss_nil)
      (pss_one (ps_ret (k_call G_replay N_replay hr (by decide) rfl (pa_cons (pv 0) (pa_cons (pv 1) pa_nil))))))), pr_startX h (fun as c D r ok k nx => ?_) fun as C D r z => ?_⟩)
  · obtain ⟨t, cs, ht, hc, hl, rfl, rfl⟩ := r
    refine q_drop (ev_need (eva_cons (ev_dat rfl) eva_nil) (.inl rfl) (Th.kind ht)) ?_
    have al : ((cs.map Cal.d).map t.isCall).all id = true := by
      rw [List.all_eq_true]
      intro b hb
      obtain ⟨d, hd, rfl⟩ := List.mem_map.mp hb
      obtain ⟨l, hl2, rfl⟩ := List.mem_map.mp hd
      exact Th.isCall_of (hc l hl2)
    refine q_guardF (b := false) (EvT.is (et_or (et_not (et_B (ev_isTup (ev_dat rfl) rfl))) fun _ => et_not (et_B (ev_all (bs := (cs.map Cal.d).map t.isCall) (ev_lc1 (src := cs.map Cal.d) (fun d => .bool (t.isCall d)) (evi_tup (ev_dat rfl)) (by decide) (by rw [List.length_map]; omega) fun d hd => ?_) (by rw [List.map_map, List.map_map, List.map_map]; rfl)))) (by rw [al]; rfl)) rfl (st_ret (ev_run (eva_cons (ev_dat rfl) (eva_cons (ev_dat rfl) eva_nil)) ht hc hl) k)
    obtain ⟨l, hl2, rfl⟩ := List.mem_map.mp hd
    exact ev_callOf (eva_cons (ev_dat rfl) (eva_cons (ev_dat rfl) eva_nil)) ht (.inl rfl) (cal_vl (hc l hl2))
  · obtain ⟨t, a, d, ht, rfl, ha, hv, hr2, rfl⟩ := r
    obtain ⟨x, hx, hx1, hx2⟩ := ev_argV (W := W0) (H0 := H) (E := startE ["thing", "row", "call"] [.f t.d, a]) (i := 1) rfl (argV_of ha)
    refine q_drop (ev_need (eva_cons (ev_dat rfl) eva_nil) (.inl rfl) (Th.kind ht)) ?_
    by_cases hd : isTup d = true
    · obtain ⟨ds, rfl⟩ : ∃ ds, d = .tuple ds := by cases d <;> first | exact ⟨_, rfl⟩ | cases hd
      have ha2 : a = .f (.tuple ds) := by
        rcases ha with e | ⟨_, _, e⟩
        · exact e
        · cases e
      subst ha2
      obtain ⟨hl, hv⟩ := hv ds rfl
      have al : (ds.map t.isCall).all id = false := by
        rw [List.all_map]
        exact hr2
      refine q_guardT (b := true) (EvT.is (et_or (et_not (et_B (ev_isTup (ev_dat rfl) rfl))) fun _ => et_not (et_B (ev_all (bs := ds.map t.isCall) (ev_lc1 (src := ds) (fun d => .bool (t.isCall d)) (evi_tup (ev_dat rfl)) (by decide) (by omega) fun d hd => ?_) (by rw [List.map_map]; rfl)))) (by rw [al]; rfl)) rfl (st_raise z)
      exact ev_callOf (eva_cons (ev_dat rfl) (eva_cons (ev_dat rfl) eva_nil)) ht (.inl rfl) (hv d hd)
    · exact q_guardT (b := true) (EvT.is (et_or1 (et_not (et_B (ev_isTup hx hx1))) (by rw [Bool.eq_false_iff.mpr hd]; rfl)) rfl) rfl (st_raise z)
end
end K00

/-! Part I. -/
set_option Elab.async false
set_option linter.all false
set_option autoImplicit false
set_option maxRecDepth 100000
set_option maxHeartbeats 4000000
/-! The law's own view of what an object is. -/
namespace K00
open PySem PySem.Spec PyProof.Rows L2
local macro_rules | `(tactic| walk_at "k00a") => `(tactic| first
  | (with_reducible exact eva_nil)
  | ((with_reducible refine' eva_cons ?k1 ?k2); (case k1 => walk_at "k00e"); (case k2 => walk_at "k00a"))
  | ((with_reducible refine' eva_star ?k1 ?k2); (case k1 => walk_at "k00e"); (case k2 => walk_at "k00a")))
local macro_rules | `(tactic| walk_at "k00o") => `(tactic| first
  | (with_reducible exact evo_no)
  | ((with_reducible refine' evo_some ?k1); (case k1 => walk_at "k00e")))
local macro_rules | `(tactic| walk_at "k00e") => `(tactic| first
  | (with_reducible exact ev_int)
  | (with_reducible exact ev_str)
  | (with_reducible exact ev_bl)
  | (with_reducible exact ev_non)
  | ((with_reducible refine' ev_dat ?k1); (case k1 => rfl))
  | ((with_reducible refine' ev_own ?k1); (case k1 => rfl))
  | ((with_reducible refine' ev_argF ?k1 ?k2); (case k1 => rfl); (case k2 => rfl))
  | ((with_reducible refine' ev_arg ?k1); (case k1 => rfl))
  | ((with_reducible refine' ev_genF ?k1 ?k2); (case k1 => rfl); (case k2 => rfl))
  | ((with_reducible refine' ev_gen ?k1); (case k1 => rfl))
  | ((with_reducible refine' ev_raw ?k1); (case k1 => rfl))
  | ((with_reducible refine' ev_ixT ?k1 ?k2 ?k3); (case k1 => walk_at "k00e"); (case k2 => walk_at "k00e"); (case k3 => walk_at "k00i"))
  | ((with_reducible refine' ev_ixL ?k1 ?k2 ?k4 ?k3); (case k1 => walk_at "k00e"); (case k2 => walk_at "k00e"); (case k4 => first | exact Or.inl rfl | exact Or.inr rfl); (case k3 => walk_at "k00i"))
  | ((with_reducible refine' ev_isInt ?k1 ?k2); (case k1 => walk_at "k00e"); (case k2 => rfl))
  | ((with_reducible refine' ev_isBool ?k1 ?k2); (case k1 => walk_at "k00e"); (case k2 => rfl))
  | ((with_reducible refine' ev_isStr ?k1 ?k2); (case k1 => walk_at "k00e"); (case k2 => rfl))
  | ((with_reducible refine' ev_isTup ?k1 ?k2); (case k1 => walk_at "k00e"); (case k2 => rfl))
  | ((with_reducible refine' ev_isLst ?k1 ?k2); (case k1 => walk_at "k00e"); (case k2 => rfl))
  | ((with_reducible refine' ev_isSeq ?k1 ?k2); (case k1 => walk_at "k00e"); (case k2 => rfl))
  | ((with_reducible refine' ev_lenB ?k1 ?k2); (case k1 => walk_at "k00e"); (case k2 => first | exact Or.inl rfl | exact Or.inr rfl))
  | ((with_reducible refine' ev_int2 ?k1 ?k2); (case k1 => walk_at "k00e"); (case k2 => walk_at "k00e"))
  | ((with_reducible refine' ev_cmp2 ?k1 ?k2); (case k1 => walk_at "k00e"); (case k2 => walk_at "k00e"))
  | ((with_reducible refine' ev_intC ?k1 ?k2 ?k3); (case k1 => walk_at "k00e"); (case k2 => walk_at "k00e"); (case k3 => walk_at "k00c"))
  | ((with_reducible refine' ev_eqS ?k1 ?k2); (case k1 => walk_at "k00e"); (case k2 => walk_at "k00e"))
  | ((with_reducible refine' ev_eqI ?k1 ?k2); (case k1 => walk_at "k00e"); (case k2 => walk_at "k00e"))
  | ((with_reducible refine' ev_neI ?k1 ?k2); (case k1 => walk_at "k00e"); (case k2 => walk_at "k00e"))
  | ((with_reducible refine' ev_eqB ?k1 ?k2); (case k1 => walk_at "k00e"); (case k2 => walk_at "k00e"))
  | ((with_reducible refine' ev_neB ?k1 ?k2); (case k1 => walk_at "k00e"); (case k2 => walk_at "k00e"))
  | ((with_reducible refine' ev_eqD ?k1 ?k2 ?k3 ?k4 ?k5 ?k6); (case k1 => walk_at "k00e"); (case k2 => walk_at "k00e"); (case k3 => rfl); (case k4 => rfl); (case k5 => walk_at "k00s"); (case k6 => walk_at "k00s"))
  | ((with_reducible refine' ev_neD ?k1 ?k2 ?k3 ?k4 ?k5 ?k6); (case k1 => walk_at "k00e"); (case k2 => walk_at "k00e"); (case k3 => rfl); (case k4 => rfl); (case k5 => walk_at "k00s"); (case k6 => walk_at "k00s"))
  | ((with_reducible refine' ev_inD ?k1 ?k2 ?k3 ?k4 ?k5 ?k6); (case k1 => walk_at "k00e"); (case k2 => walk_at "k00e"); (case k3 => rfl); (case k4 => rfl); (case k5 => walk_at "k00s"); (case k6 => walk_at "k00s"))
  | ((with_reducible refine' ev_niD ?k1 ?k2 ?k3 ?k4 ?k5 ?k6); (case k1 => walk_at "k00e"); (case k2 => walk_at "k00e"); (case k3 => rfl); (case k4 => rfl); (case k5 => walk_at "k00s"); (case k6 => walk_at "k00s"))
  | ((with_reducible refine' ev_isNone ?k1 ?k2); (case k1 => walk_at "k00e"); (case k2 => rfl))
  | ((with_reducible refine' ev_notNone ?k1 ?k2); (case k1 => walk_at "k00e"); (case k2 => rfl))
  | ((with_reducible refine' ev_neg ?k1); (case k1 => walk_at "k00e"))
  | ((with_reducible refine' ev_tup ?k1 ?k2 ?k3); (case k1 => walk_at "k00a"); (case k2 => first | rfl | exact allF_app _ _); (case k3 => walk_at "k00l"))
  | ((with_reducible refine' ev_lst ?k1 ?k2 ?k3); (case k1 => walk_at "k00a"); (case k2 => first | rfl | exact allF_app _ _); (case k3 => walk_at "k00l"))
  | ((with_reducible refine' ev_slT ?k1 ?k2 ?k3); (case k1 => walk_at "k00e"); (case k2 => walk_at "k00o"); (case k3 => walk_at "k00o"))
  | ((with_reducible refine' ev_catT ?k1 ?k2 ?k3); (case k1 => walk_at "k00e"); (case k2 => walk_at "k00e"); (case k3 => walk_at "k00l"))
  | ((with_reducible refine' ev_cat ?k1 ?k2 ?k4 ?k5 ?k3); (case k1 => walk_at "k00e"); (case k2 => walk_at "k00e"); (case k4 => first | exact Or.inl rfl | exact Or.inr rfl); (case k5 => first | exact Or.inl rfl | exact Or.inr rfl); (case k3 => walk_at "k00l"))
  | ((with_reducible refine' ev_tupOf ?k1 ?k2); (case k1 => walk_at "k00e"); (case k2 => first | exact Or.inl rfl | exact Or.inr rfl))
  | ((with_reducible refine' ev_lstOf ?k1); (case k1 => walk_at "k00e"))
  | ((with_reducible refine' ev_intI ?k1); (case k1 => walk_at "k00e"))
  | ((with_reducible refine' ev_intB ?k1); (case k1 => walk_at "k00e"))
  | ((with_reducible refine' ev_and0 ?k1 ?k2); (case k1 => walk_at "k00e"); (case k2 => first | rfl | assumption))
  | ((with_reducible refine' ev_or1 ?k1 ?k2); (case k1 => walk_at "k00e"); (case k2 => first | rfl | assumption))
  | ((with_reducible refine' ev_ifT ?k1 ?k2 ?k3); (case k1 => walk_at "k00t"); (case k2 => first | rfl | assumption); (case k3 => walk_at "k00e"))
  | ((with_reducible refine' ev_ifF ?k1 ?k2 ?k3); (case k1 => walk_at "k00t"); (case k2 => first | rfl | assumption); (case k3 => walk_at "k00e"))
  | ((with_reducible refine' ev_andV ?k1 ?k2); (case k1 => walk_at "k00e"); (case k2 => intro hb; walk_at "k00e"))
  | ((with_reducible refine' ev_orV ?k1 ?k2); (case k1 => walk_at "k00e"); (case k2 => intro hb; walk_at "k00e"))
  | ((with_reducible refine' ev_notV ?k1); (case k1 => walk_at "k00e"))
  | ((with_reducible refine' ev_chain ?k1 ?k2 ?k3); (case k1 => walk_at "k00e"); (case k2 => walk_at "k00e"); (case k3 => walk_at "k00e"))
  | ((with_reducible refine' ev_inT ?k1 ?k2 ?k3 ?k4); (case k1 => walk_at "k00e"); (case k2 => walk_at "k00e"); (case k3 => walk_at "k00w"); (case k4 => rfl))
  | ((with_reducible refine' ev_inN ?k1 ?k2 ?k3 ?k4); (case k1 => walk_at "k00e"); (case k2 => walk_at "k00e"); (case k3 => walk_at "k00w"); (case k4 => rfl))
  | ((with_reducible refine' ev_inI ?k1 ?k2 ?k3); (case k1 => walk_at "k00e"); (case k2 => walk_at "k00e"); (case k3 => exact Or.inr (Or.inr rfl)))
  | ((with_reducible refine' ev_lcW ?k1 ?k2 ?k3 ?k4); (case k1 => walk_at "k00n"); (case k2 => decide); (case k3 => walk_at "k00x"); (case k4 => first | decide | exact of_decide_eq_true rfl))
  | walk_at "k00r"
  | (with_reducible exact ev_c))
local macro_rules | `(tactic| walk_at "k00k") => `(tactic| first
  | exact Coes.nil
  | ((refine' Coes.cons ?k1 ?k2); (case k1 => first | exact coe_rfl | exact coe_b rfl); (case k2 => walk_at "k00k")))
local macro_rules | `(tactic| walk_at "k00i") => `(tactic| first | rfl | assumption)
local macro_rules | `(tactic| walk_at "k00c") => `(tactic| first | trivial | decide | omega | assumption)
local macro_rules | `(tactic| walk_at "k00l") => `(tactic| first | decide | (simp; done) | (simp; omega) | omega | assumption | (simp [rangeR_len2, fzs]; done) | (simp [rangeR_len2, fzs]; omega))
local macro_rules | `(tactic| walk_at "k00s") => `(tactic| first | rfl | decide +kernel | assumption | exact Sh.shaped (by assumption))
local macro_rules | `(tactic| walk_at "k00t") => `(tactic| first
  | ((with_reducible refine' et_test ?k1); (case k1 => walk_at "k00e"))
  | ((with_reducible refine' et_B ?k1); (case k1 => walk_at "k00e"))
  | ((with_reducible refine' et_not ?k1); (case k1 => walk_at "k00t"))
  | ((with_reducible refine' et_and0 ?k1 ?k2); (case k1 => walk_at "k00t"); (case k2 => first | rfl | assumption))
  | ((with_reducible refine' et_or1 ?k1 ?k2); (case k1 => walk_at "k00t"); (case k2 => first | rfl | assumption))
  | ((with_reducible refine' et_and ?k1 ?k2); (case k1 => walk_at "k00t"); (case k2 => intro hb; walk_at "k00t"))
  | ((with_reducible refine' et_or ?k1 ?k2); (case k1 => walk_at "k00t"); (case k2 => intro hb; walk_at "k00t"))
  | (with_reducible exact et_yes))

local macro_rules | `(tactic| walk_at "k00n") => `(tactic| first
  | ((with_reducible refine' evi_rng1 ?k1 ?k2); (case k1 => walk_at "k00e"); (case k2 => walk_at "k00y"))
  | ((with_reducible refine' evi_rng2 ?k1 ?k2 ?k3); (case k1 => walk_at "k00e"); (case k2 => walk_at "k00e"); (case k3 => walk_at "k00y"))
  | ((with_reducible refine' evi_tup ?k1); (case k1 => walk_at "k00e"))
  | ((with_reducible refine' evi_lst ?k1 ?k2); (case k1 => walk_at "k00e"); (case k2 => first | exact Or.inl rfl | exact Or.inr rfl)))
local macro_rules | `(tactic| walk_at "k00y") => `(tactic| first | decide | omega | (simp; omega) | assumption)
local macro_rules | `(tactic| walk_at "k00x") => `(tactic| first | decide | assumption | (rw [rangeR_iv, List.length_map]; unfold iv; rw [List.length_map, List.length_range]; omega))
local macro_rules | `(tactic| walk_at "k00w") => `(tactic| first | exact Or.inr (Or.inr rfl) | exact Or.inl rfl | exact Or.inr (Or.inl rfl))
local macro_rules | `(tactic| walk_at "k00b") => `(tactic| first | decide +kernel | rfl | assumption | (simp; done))
local macro_rules | `(tactic| walk_at "k00g") => `(tactic| first
  | ((with_reducible refine' q_asgF ?k1 ?k2); (case k1 => walk_at "k00e"))
  | ((with_reducible refine' q_guardF ?k1 ?k2 ?k3); (case k1 => walk_at "k00t"); (case k2 => walk_at "k00b"))
  | ((with_reducible refine' q_guardT ?k1 ?k2 ?k3); (case k1 => walk_at "k00t"); (case k2 => walk_at "k00b"))
  | ((with_reducible refine' q_two ?k1 ?k2); (case k1 => walk_at "k00e"))
  | ((with_reducible refine' q_par ?k1 ?k2); (case k1 => walk_at "k00a"))
  | ((with_reducible refine' q_par3 ?k1 ?k2); (case k1 => walk_at "k00a")))
local macro_rules | `(tactic| walk_at "k00f") => `(tactic| ((refine' Ev.is ?k1 ?k2); (case k1 => walk_at "k00e"); (case k2 => rfl)))
local macro_rules | `(tactic| walk_at "k00r") => `(tactic| first
  | ((with_reducible refine' ev_small ?k1 ?k2); (case k1 => walk_at "k00a"); (case k2 => rfl))
  | ((with_reducible refine' ev_bank ?k1); (case k1 => walk_at "k00a"))
  | ((with_reducible refine' ev_table ?k1); (case k1 => walk_at "k00a")))
def relRowsL (as : List AR) (c : AR) : Prop := ∃ d, as = [.f d] ∧ Sh 40 d ∧ c = .f (.bool (tableD d))
def relObjL (as : List AR) (c : AR) : Prop := ∃ a d, as = [a] ∧ isArg a d ∧ Sh 41 d ∧ c = .f (.bool (kindD d))
section
variable {W : Wd} {H0 : Hp} {K : PySem.W.Frag} {ta : TA} {E : List AV} {Ex : XK} {a : AR} {d : PyData}
theorem ev_rowsL (h : EvA W H0 ta E [.f d]) (s : Sh 40 d) : Ev W H0 (tCall (Pr relRowsL) [] Ex ta) E (.f (.bool (tableD d))) := ev_call h (.cons coe_rfl .nil) ⟨_, rfl, s, rfl⟩ trivial
theorem ev_objL (h : EvA W H0 ta E [a]) (ha : a = .f d ∨ ((∃ ds, a.d = some (.list ds)) ∧ a.d = some d)) (s : Sh 41 d) : Ev W H0 (tCall (Pr relObjL) [] Ex ta) E (.f (.bool (kindD d))) := by
  obtain ⟨b, hb, hi⟩ := isArg_coe ha
  exact ev_call h (.cons hb .nil) ⟨_, d, rfl, hi, s, rfl⟩ trivial
/-- [x for x in src if f(x)] (== or !=) [] -/
theorem et_noneEq {wi : TI} {tt : TT} {j : Nat} {vs : List Nat} {src : List PyData} (f : PyData → Bool) (hi : EvI W H0 wi E (src.map .f)) (hj : j ∈ vs) (hjl : j < (wipeE E vs).length) (hl : src.length ≤ 50000) (sh : ShAll 60 src)
    (ht : ∀ x ∈ src, EvT W H0 tt ((wipeE E vs).set j (.dat x)) (f x)) : Ev W H0 (tOp (rEqD K) (tLc wi (gName j) tt (tVar j) vs) (tLst tNil)) E (.f (.bool (src.all fun x => !f x))) := by
  refine (ev_eqD (ev_lc (src := src) f id hi hj hl ht fun x _ _ => ev_dat (by rw [List.getElem?_set_self hjl]; rfl)) (ev_lst eva_nil rfl (by decide)) rfl rfl ?_ rfl).is ?_
  · refine Sh.shaped (n := 61) (ShAll.of fun x hx => ?_).lst
    rw [List.map_id] at hx
    exact sh.each x (List.mem_filter.mp hx).1
  · show AR.f (.bool (PyData.eqv (.list _) (.list []))) = _
    rw [eqv_nil, List.map_id]
    congr 2
    rw [Bool.eq_iff_iff, List.isEmpty_iff, List.filter_eq_nil_iff, List.all_eq_true]
    simp
theorem et_noneNe {wi : TI} {tt : TT} {j : Nat} {vs : List Nat} {src : List PyData} (f : PyData → Bool) (hi : EvI W H0 wi E (src.map .f)) (hj : j ∈ vs) (hjl : j < (wipeE E vs).length) (hl : src.length ≤ 50000) (sh : ShAll 60 src)
    (ht : ∀ x ∈ src, EvT W H0 tt ((wipeE E vs).set j (.dat x)) (f x)) : Ev W H0 (tOp (rNeD K) (tLc wi (gName j) tt (tVar j) vs) (tLst tNil)) E (.f (.bool (src.any f))) := by
  refine (ev_neD (ev_lc (src := src) f id hi hj hl ht fun x _ _ => ev_dat (by rw [List.getElem?_set_self hjl]; rfl)) (ev_lst eva_nil rfl (by decide)) rfl rfl ?_ rfl).is ?_
  · refine Sh.shaped (n := 61) (ShAll.of fun x hx => ?_).lst
    rw [List.map_id] at hx
    exact sh.each x (List.mem_filter.mp hx).1
  · show AR.f (.bool (!PyData.eqv (.list _) (.list []))) = _
    rw [eqv_nil, List.map_id]
    congr 2
    rw [Bool.eq_iff_iff, Bool.not_eq_true', List.any_eq_true, ← Bool.not_eq_true, List.isEmpty_iff, List.filter_eq_nil_iff]
    simp
end
section
variable {P : Program} {w : World} {K : PySem.W.Frag} {mg : Str → Option Value} {base : Heap} {f : Addr} {fd : FuncData}
theorem sc__law_is_number : FnScope ["_law_value", "_law_low", "_law_high"] ["_law_value", "_law_low", "_law_high"] (defScope (stm 46)) := ⟨rfl, rfl, rfl, by decide +kernel, rfl, by decide +kernel, by decide +kernel⟩
theorem sc__law_is_rows : FnScope ["_law_value", "_law_line", "_law_one"] ["_law_value"] (defScope (stm 47)) := ⟨rfl, rfl, rfl, by decide +kernel, rfl, by decide +kernel, by decide +kernel⟩
theorem sc__law_is_object : FnScope ["_law_value", "_law_good", "_law_one"] ["_law_value"] (defScope (stm 48)) := ⟨rfl, rfl, rfl, by decide +kernel, rfl, by decide +kernel, by decide +kernel⟩
theorem ok__law_is_number (F : FnP K "_law_is_number" 46 f fd) (B : Bt mg) : FnOk P w K mg base CX0 1 f fd ["_law_value", "_law_low", "_law_high"] (Pr relSmall) := by
  refine F.ok sc__law_is_number (fun vs H Q E h => pr_len (fun as c r => by obtain ⟨d, lo, hi, rfl, _⟩ := r; rfl) h) (fun cdv A outer s H vs Q E hr h => ⟨_, PSs.nox (pss_one (ps_ret (pe_and (k_isinstance B.isinstance rfl (pa_cons (pv 0) (pa_cons (k_ty B.int rfl boot_int') pa_nil))) (pe_and (pe_not (k_isinstance B.isinstance rfl (pa_cons (pv 0) (pa_cons (k_ty B.bool rfl boot_bool') pa_nil)))) (pe_one (pe_chain op_le op_le (pv 1) (pv 0) (pv 2))))))), pr_start h fun as c D r ok k => ?_⟩)
  obtain ⟨d, lo, hi, rfl, rfl⟩ := r
  cases d with
  | int i =>
    refine' st_ret (Ev.is ?h ?e) k
    case h => walk_at "k00e"
    case e => rfl
  | _ => 
    refine' st_ret (Ev.is ?h ?e) k
    case h => walk_at "k00e"
    case e => rfl
theorem ok__law_is_rows {f1 : Addr} {fd1 : FuncData} (F : FnP K "_law_is_rows" 47 f fd) (B : Bt mg) (G__law_is_number : FnOk P w K mg base CX0 1 f1 fd1 ["_law_value", "_law_low", "_law_high"] (Pr relSmall)) (N__law_is_number : Kn K mg "_law_is_number" ["_law_value", "_law_low", "_law_high"] f1 fd1) :
    FnOk P w K mg base CX0 2 f fd ["_law_value"] (Pr relRowsL) := by
  refine F.ok sc__law_is_rows (fun vs H Q E h => pr_len (fun as c r => by obtain ⟨d, rfl, _⟩ := r; rfl) h) (fun cdv A outer s H vs Q E hr h => ⟨_, PSs.nox (pss_cons (ps_if (PW.pt (pw_or (pt_not (pt_val (k_isinstance B.isinstance rfl (pa_cons (pv 0) (pa_cons (k_ty B.tuple rfl boot_tuple') pa_nil))))) (pw_or (pt_not (pt_chain op_le op_le pe_int (k_len B.len rfl (pa_cons (pv 0) pa_nil)) pe_int)) (pw_or1 (pt_cmpR (op_neD hr.units) (pe_lc (own := [("_law_one", 2)]) (g := gName 2) rfl sc__law_is_rows.nd (pi_tup (pv 0)) (blkOk_by (own := [("_law_one", 2)]) (N := ["_law_value", "_law_line", "_law_one"]) (sc := defScope (stm 47)) (by decide +kernel)) (fun _ _ _ _ _ => pg_name (i := 2) sc__law_is_rows.nd rfl (Or.inl rfl)) (fun _ _ _ _ _ => pts_one (pt_not (pt_val (k_isinstanceK K B.isinstance rfl (pa_cons (pv 2) (pa_cons (k_ty B.tuple rfl boot_tuple') pa_nil)))))) (fun _ _ _ _ _ => (pv 2))) (pe_lst pa_nil) (nomark _)))))) (pss_one (ps_ret pe_bl)) pss_nil)
      (pss_cons (ps_if (PW.pt (pw_or (pt_not (pt_chain op_le op_le pe_int (k_len B.len rfl (pa_cons (pe_ix ix_tup (pv 0) pe_int (fun _ _ => rfl)) pa_nil)) pe_int)) (pw_or1 (pt_cmpR (op_neD hr.units) (pe_lc (own := [("_law_one", 2)]) (g := gName 2) rfl sc__law_is_rows.nd (pi_tup (pv 0)) (blkOk_by (own := [("_law_one", 2)]) (N := ["_law_value", "_law_line", "_law_one"]) (sc := defScope (stm 47)) (by decide +kernel)) (fun _ _ _ _ _ => pg_name (i := 2) sc__law_is_rows.nd rfl (Or.inl rfl)) (fun _ _ _ _ _ => pts_one (pt_cmpR op_ne (k_lenK K B.len rfl (pa_cons (pv 2) pa_nil)) (k_lenK K B.len rfl (pa_cons (pe_ix (ix_tup : IxR _ (rIxT K)) (pv 0) pe_int (fun _ _ => rfl)) pa_nil)) (nomark _))) (fun _ _ _ _ _ => (pv 2))) (pe_lst pa_nil) (nomark _))))) (pss_one (ps_ret pe_bl)) pss_nil)
      (pss_cons (ps_for PassesOwn.never rfl (pi_tup (pv 0)) (pg_name (i := 1) sc__law_is_rows.nd rfl (Or.inl rfl)) (pss_one (ps_for PassesOwn.never rfl (pi_tup (pv 1)) (pg_name (i := 2) sc__law_is_rows.nd rfl (Or.inl rfl)) (pss_one (ps_if (PW.pt (pw_or (pt_not (pt_val (k_isinstance B.isinstance rfl (pa_cons (pv 2) (pa_cons (k_ty B.tuple rfl boot_tuple') pa_nil))))) (pw_or (pt_cmpR op_ne (k_len B.len rfl (pa_cons (pv 2) pa_nil)) pe_int (nomark _)) (pw_or (pt_not (pt_val (k_call G__law_is_number N__law_is_number hr (by decide) rfl (pa_cons (pe_ix ix_tup (pv 2) pe_int (fun _ _ => rfl)) (pa_cons pe_int (pa_cons (pe_op op_sub (k_len B.len rfl (pa_cons (pv 0) pa_nil)) pe_int) pa_nil)))))) (pw_or1 (pt_not (pt_val (k_call G__law_is_number N__law_is_number hr (by decide) rfl (pa_cons (pe_ix ix_tup (pv 2) pe_int (fun _ _ => rfl)) (pa_cons pe_int (pa_cons pe_int pa_nil))))))))))) (pss_one (ps_ret pe_bl)) pss_nil)))))
      (pss_one (ps_ret pe_bl))))), pr_start h fun as c D r ok k => ?_⟩)
  obtain ⟨d, rfl, sh, rfl⟩ := r
  by_cases ht : isTup d = true
  · obtain ⟨rs, rfl⟩ : ∃ rs, d = .tuple rs := by cases d <;> first | exact ⟨_, rfl⟩ | cases ht
    have shr : ShAll 60 rs := .of fun x hx => ((Sh.ofTup (n := 39) sh).each x hx).mono (by decide)
    by_cases hlen : 1 ≤ (rs.length : Int) ∧ (rs.length : Int) ≤ 6
    · have hb : (decide (1 ≤ (rs.length : Int)) && decide ((rs.length : Int) ≤ 6)) = true := by simp [hlen.1, hlen.2]
      have tab : ∀ r ∈ rs, rowD ((rs.length : Int) - 1) (rs.headD .none) r = false → tableD (.tuple rs) = false := fun r hr z => by
        obtain ⟨i, hi⟩ := List.mem_iff_getElem?.mp hr
        simp only [tableD, all_false hi z, Bool.and_false]
      have h0 : rs[0]? = some (rs.headD .none) := by
        cases rs with
        | nil =>
          have := hlen.1
          simp at this
        | cons a t => rfl
      have m0 : rs.headD .none ∈ rs := List.mem_of_getElem? h0
      have i0 : atI rs 0 = some (rs.headD .none) := atI_nat h0
      refine' q_guard (b := rs.any fun x => !isTup x) (EvT.is (et_or (et_not (et_B (ev_isTup (ev_dat rfl) rfl))) fun _ => et_or (et_not (et_test (ev_chain ev_int (ev_lenB (ev_dat rfl) (.inr rfl)) ev_int))) fun _ => et_test (et_noneNe (fun x => !isTup x) (evi_tup (ev_dat rfl)) (by decide) (of_decide_eq_true rfl) (by omega) shr fun x hx => et_not (et_B (ev_isTup (ev_dat rfl) rfl)))) ?e1) (fun hn => st_ret ev_bl (k.eq ?y1 rfl)) fun hn => ?nx0
      case e1 =>
        rw [hb]
        rfl
      case y1 =>
        obtain ⟨r, hr, z⟩ := List.any_eq_true.mp hn
        rw [tab r hr (by cases r <;> first | rfl | cases z)]
      have tups : ∀ r ∈ rs, ∃ ps, r = .tuple ps := fun r hr => by
        have := List.any_eq_false.mp hn r hr
        cases r <;> first | exact ⟨_, rfl⟩ | exact absurd rfl this
      obtain ⟨p0, e0⟩ := tups _ m0
      rw [e0] at i0
      by_cases hw : 1 ≤ (p0.length : Int) ∧ (p0.length : Int) ≤ 4
      · have hc : (decide (1 ≤ (p0.length : Int)) && decide ((p0.length : Int) ≤ 4)) = true := by simp [hw.1, hw.2]
        refine' q_guard (b := rs.any fun x => !decide ((dlen x : Int) = (p0.length : Int))) (EvT.is (et_or (et_not (et_test (ev_chain ev_int (ev_lenB (ev_ixT (ev_dat rfl) ev_int i0) (.inr rfl)) ev_int))) fun _ => et_test (et_noneNe (fun x => !decide ((dlen x : Int) = (p0.length : Int))) (evi_tup (ev_dat rfl)) (by decide) (of_decide_eq_true rfl) (by omega) shr fun x hx => ?g2)) ?e2) (fun hn2 => st_ret ev_bl (k.eq ?y2 rfl)) fun hn2 => ?nx1
        case g2 =>
          obtain ⟨ps, rfl⟩ := tups x hx
          exact et_test (ev_neI (ev_lenB (ev_dat rfl) (.inr rfl)) (ev_lenB (ev_ixT (ds := rs) (ev_dat rfl) ev_int i0) (.inr rfl)))
        case e2 =>
          rw [hc]
          rfl
        case y2 =>
          obtain ⟨r, hr, z⟩ := List.any_eq_true.mp hn2
          obtain ⟨ps, rfl⟩ := tups r hr
          have z : decide ((ps.length : Int) = (p0.length : Int)) = false := by
            rw [Bool.not_eq_true'] at z
            exact z
          rw [tab _ hr (by simp only [rowD, e0, dlen, z, Bool.and_false, Bool.false_and])]
        have same : ∀ ps, PyData.tuple ps ∈ rs → ps.length = p0.length := fun ps hr => by
          have nq : ¬ (!decide ((ps.length : Int) = (p0.length : Int))) = true := List.any_eq_false.mp hn2 _ hr
          rw [Bool.not_eq_true', Bool.not_eq_false] at nq
          have nq := of_decide_eq_true nq
          omega
        have row : ∀ ps, PyData.tuple ps ∈ rs → rowD ((rs.length : Int) - 1) (rs.headD .none) (.tuple ps) = ps.all (pairD ((rs.length : Int) - 1)) := fun ps hr => by
          have e := same ps hr
          have h1 : (decide (1 ≤ (ps.length : Int)) && decide ((ps.length : Int) ≤ 4)) = true := by rw [e]; exact hc
          have h2 : decide ((ps.length : Int) = (p0.length : Int)) = true := by rw [e]; simp
          simp only [rowD, h1, e0, isTup, dlen, h2, Bool.true_and]
        refine' q_for (E1 := [.dat (.tuple rs), .no, .no]) (fun i E' => E' = [.dat (.tuple rs), .no, .no] ∧ ∀ (m : Nat) a, m < i → rs[m]? = some a → rowD ((rs.length : Int) - 1) (rs.headD .none) a = true) (evi_tup (ev_dat rfl)) (fun i E' p => by rw [p.1]; rfl) ⟨rfl, fun m a h => absurd h (Nat.not_lt_zero _)⟩ (.same (.no (.no .nil))) (fun H1 n1 i a E' ha p => ?turn) fun E' p => ?done
        case done =>
          obtain ⟨rfl, p⟩ := p
          rw [List.length_map] at p
          have e : tableD (.tuple rs) = true := by simp only [tableD, hb, all_of p, Bool.and_true]
          exact st_ret ev_bl (k.eq (by rw [e]) rfl)
        case turn =>
          obtain ⟨rfl, p⟩ := p
          obtain ⟨r, hr2, rfl⟩ : ∃ r, rs[i]? = some r ∧ a = .f r := by
            rw [List.getElem?_map] at ha
            obtain ⟨r, e1, e2⟩ := Option.map_eq_some_iff.mp ha
            exact ⟨r, e1, e2.symm⟩
          have hmem := List.mem_of_getElem? hr2
          obtain ⟨ps, rfl⟩ := tups r hmem
          have bad : ps.all (pairD ((rs.length : Int) - 1)) = false → Ret W0 H1 D (.f (.bool false)) := fun z => (k.on n1 rfl).eq (by rw [tab _ hmem (by rw [row ps hmem, z])]) rfl
          refine' st_for (E1 := [.dat (.tuple rs), .dat (.tuple ps), .no]) (fun j E' => E' = [.dat (.tuple rs), .dat (.tuple ps), .no] ∧ ∀ (m : Nat) a, m < j → ps[m]? = some a → pairD ((rs.length : Int) - 1) a = true) (evi_tup (ev_dat rfl)) (fun i E' p => by rw [p.1]; rfl) ⟨rfl, fun m a h => absurd h (Nat.not_lt_zero _)⟩ Wk.rfl (fun H2 n2 j a E' hj q => ?turn2) fun E' q σ H S => ?done2
          case done2 =>
            obtain ⟨rfl, q⟩ := q
            rw [List.length_map] at q
            refine ⟨_, ⟨rfl, fun m a hm he => ?_⟩, S.wk (.same (.no (.same .nil)))⟩
            by_cases hmi : m < i
            · exact p m a hmi he
            · have : m = i := by omega
              subst this
              rw [hr2] at he
              cases he
              rw [row ps hmem]
              exact all_of q
          case turn2 =>
            obtain ⟨rfl, q⟩ := q
            obtain ⟨x, hd, rfl⟩ : ∃ d, ps[j]? = some d ∧ a = .f d := by
              rw [List.getElem?_map] at hj
              obtain ⟨r, e1, e2⟩ := Option.map_eq_some_iff.mp hj
              exact ⟨r, e1, e2.symm⟩
            have bad2 : pairD ((rs.length : Int) - 1) x = false → Ret W0 H2 D (.f (.bool false)) := fun z => (bad (all_false hd z)).on n2 rfl
            have good : pairD ((rs.length : Int) - 1) x = true → ∀ (m : Nat) a, m < j + 1 → ps[m]? = some a → pairD ((rs.length : Int) - 1) a = true := fun z m a hm hq => by
              by_cases hmi : m < j
              · exact q m a hmi hq
              · have : m = j := by omega
                subst this
                rw [hd] at hq
                cases hq
                exact z
            by_cases hdt : isTup x = true
            · obtain ⟨xs, rfl⟩ : ∃ xs, x = .tuple xs := by cases x <;> first | exact ⟨_, rfl⟩ | cases hdt
              by_cases h2 : xs.length = 2
              · obtain ⟨x, y, rfl⟩ : ∃ x y, xs = [x, y] := by
                  rcases xs with _ | ⟨x, _ | ⟨y, _ | ⟨u, t⟩⟩⟩
                  · cases h2
                  · cases h2
                  · exact ⟨x, y, rfl⟩
                  · cases h2
                refine' st_if (b := !pairD ((rs.length : Int) - 1) (.tuple [x, y])) (EvT.is ?h4 ?e4) (fun he => st_ret ev_bl (bad2 (by simpa using he))) fun he => st_next fun σ H S => ⟨_, ⟨rfl, good (by simpa using he)⟩, S.wk (.same (.same (.no .nil)))⟩
                case h4 => walk_at "k00t"
                case e4 =>
                  show (!true || (!decide (((2 : Nat) : Int) = 2) || (!smallD x 0 ((rs.length : Int) - 1) || !smallD y 0 9))) = !(smallD x 0 ((rs.length : Int) - 1) && smallD y 0 9)
                  cases smallD x 0 ((rs.length : Int) - 1) <;> cases smallD y 0 9 <;> rfl
              · have np : pairD ((rs.length : Int) - 1) (.tuple xs) = false := by
                  rcases xs with _ | ⟨x, _ | ⟨y, _ | ⟨u, t⟩⟩⟩ <;> first | rfl | exact absurd rfl h2
                refine' st_ifT (b := true) (EvT.is ?h6 ?e6) rfl (st_ret ev_bl (bad2 np))
                case h6 => exact et_or (et_not (et_B (ev_isTup (ev_dat rfl) rfl))) fun _ => et_or1 (et_test (ev_neI (ev_lenB (ev_dat rfl) (.inr rfl)) ev_int)) (by simp; omega)
                case e6 => rw [Bool.or_true]
            · refine' st_ifT (b := true) (EvT.is ?h7 ?e7) rfl (st_ret ev_bl (bad2 ?y7))
              case h7 => exact et_or1 (et_not (et_B (ev_isTup (ev_dat rfl) rfl))) (by rw [Bool.eq_false_iff.mpr hdt]; rfl)
              case e7 => rfl
              case y7 => cases x <;> first | rfl | exact absurd rfl hdt
      · refine' q_guardT (b := true) (EvT.is (et_or1 (et_not (et_test (ev_chain ev_int (ev_lenB (ev_ixT (ev_dat rfl) ev_int i0) (.inr rfl)) ev_int))) ?z) rfl) rfl (st_ret ev_bl (k.eq ?y3 rfl))
        case z =>
          rw [Bool.not_eq_true', Bool.and_eq_false_iff, decide_eq_false_iff_not, decide_eq_false_iff_not]
          omega
        case y3 =>
          rw [tab _ m0 ?_]
          rw [e0]
          have : (decide (1 ≤ (p0.length : Int)) && decide ((p0.length : Int) ≤ 4)) = false := by
            rw [Bool.and_eq_false_iff, decide_eq_false_iff_not, decide_eq_false_iff_not]
            omega
          simp only [rowD, this, Bool.false_and]
    · have hb : (decide (1 ≤ (rs.length : Int)) && decide ((rs.length : Int) ≤ 6)) = false := by
        rw [Bool.and_eq_false_iff, decide_eq_false_iff_not, decide_eq_false_iff_not]
        omega
      refine' q_guardT (b := true) (EvT.is (et_or (et_not (et_B (ev_isTup (ev_dat rfl) rfl))) fun _ => et_or1 (et_not (et_test (ev_chain ev_int (ev_lenB (ev_dat rfl) (.inr rfl)) ev_int))) ?z) ?z2) rfl (st_ret ev_bl (k.eq ?y4 rfl))
      case z => rw [hb]; rfl
      case z2 => rw [Bool.or_true]
      case y4 => simp only [tableD, hb, Bool.false_and]
  · refine' q_guardT (b := true) (EvT.is ?h10 ?e10) rfl (st_ret ev_bl (k.eq ?y5 rfl))
    case h10 => exact et_or1 (et_not (et_B (ev_isTup (ev_dat rfl) rfl))) (by rw [Bool.eq_false_iff.mpr ht]; rfl)
    case e10 => rfl
    case y5 => cases d <;> first | rfl | exact absurd rfl ht
theorem kind_long {nm : Str} {y z u : PyData} {r : List PyData} : kindD (.tuple (.str nm :: y :: z :: u :: r)) = false := by
  have h2 : decide (((PyData.str nm :: y :: z :: u :: r).length : Int) = 2) = false := by
    rw [decide_eq_false_iff_not]
    simp
    omega
  have h3 : decide (((PyData.str nm :: y :: z :: u :: r).length : Int) = 3) = false := by
    rw [decide_eq_false_iff_not]
    simp
    omega
  simp only [kindD, h2, h3, Bool.false_and, Bool.and_false, ite_self]
theorem ok__law_is_object {f1 f2 : Addr} {fd1 fd2 : FuncData} (F : FnP K "_law_is_object" 48 f fd) (B : Bt mg) (G__law_is_number : FnOk P w K mg base CX0 1 f1 fd1 ["_law_value", "_law_low", "_law_high"] (Pr relSmall)) (N__law_is_number : Kn K mg "_law_is_number" ["_law_value", "_law_low", "_law_high"] f1 fd1)
    (G__law_is_rows : FnOk P w K mg base CX0 2 f2 fd2 ["_law_value"] (Pr relRowsL)) (N__law_is_rows : Kn K mg "_law_is_rows" ["_law_value"] f2 fd2) : FnOk P w K mg base CX0 3 f fd ["_law_value"] (Pr relObjL) := by
  refine F.ok sc__law_is_object (fun vs H Q E h => pr_len (fun as c r => by obtain ⟨a, d, rfl, _⟩ := r; rfl) h) (fun cdv A outer s H vs Q E hr h => ⟨_, PSs.nox (pss_cons (ps_if (PW.pt (pw_or (pt_not (pt_val (k_isinstance B.isinstance rfl (pa_cons (pv 0) (pa_cons (k_ty B.tuple rfl boot_tuple') pa_nil))))) (pw_or (pt_cmpR op_notIn_seq (k_len B.len rfl (pa_cons (pv 0) pa_nil)) (pe_lst (pa_cons pe_int (pa_cons pe_int pa_nil))) (by rfl)) (pw_or1 (pt_not (pt_val (k_isinstance B.isinstance rfl (pa_cons (pe_ix ix_tup (pv 0) pe_int (fun _ _ => rfl)) (pa_cons (k_ty B.str rfl boot_str') pa_nil))))))))) (pss_one (ps_ret pe_bl)) pss_nil)
      (pss_cons (ps_if (pt_cmpR op_in_seq (pe_ix ix_tup (pv 0) pe_int (fun _ _ => rfl)) (pe_lst (pa_cons pe_str (pa_cons pe_str (pa_cons pe_str (pa_cons pe_str pa_nil))))) (by rfl)) (pss_one (ps_ret (pe_and (pe_cmpR op_eq (k_len B.len rfl (pa_cons (pv 0) pa_nil)) pe_int (nomark _)) (pe_one (k_call G__law_is_number N__law_is_number hr (by decide) rfl (pa_cons (pe_ix ix_tup (pv 0) pe_int (fun _ _ => rfl)) (pa_cons pe_int (pa_cons pe_int pa_nil)))))))) pss_nil)
      (pss_cons (ps_if (pt_cmpR op_in_seq (pe_ix ix_tup (pv 0) pe_int (fun _ _ => rfl)) (pe_lst (pa_cons pe_str (pa_cons pe_str pa_nil))) (by rfl)) (pss_one (ps_ret (pe_and (pe_cmpR op_eq (k_len B.len rfl (pa_cons (pv 0) pa_nil)) pe_int (nomark _)) (pe_and (k_call G__law_is_number N__law_is_number hr (by decide) rfl (pa_cons (pe_ix ix_tup (pv 0) pe_int (fun _ _ => rfl)) (pa_cons pe_int (pa_cons pe_int pa_nil)))) (pe_one (k_call G__law_is_number N__law_is_number hr (by decide) rfl (pa_cons (pe_ix ix_tup (pv 0) pe_int (fun _ _ => rfl)) (pa_cons pe_int (pa_cons pe_int pa_nil))))))))) pss_nil)
      (pss_cons (ps_if (pt_cmpR op_eq (pe_ix ix_tup (pv 0) pe_int (fun _ _ => rfl)) pe_str (nomark _)) (pss_cons (ps_set (i := 1) sc__law_is_object.nd rfl (Or.inl rfl) (pe_and (pe_cmpR op_eq (k_len B.len rfl (pa_cons (pv 0) pa_nil)) pe_int (nomark _)) (pe_and (k_isinstance B.isinstance rfl (pa_cons (pe_ix ix_tup (pv 0) pe_int (fun _ _ => rfl)) (pa_cons (k_ty B.tuple rfl boot_tuple') pa_nil))) (pe_one (pe_cmpR op_in_seq (k_len B.len rfl (pa_cons (pe_ix ix_tup (pv 0) pe_int (fun _ _ => rfl)) pa_nil)) (pe_lst (pa_cons pe_int (pa_cons pe_int pa_nil))) (by rfl))))))
      (pss_one (ps_ret (pe_and (pv 1) (pe_one (pe_cmpR (op_eqD hr.units) (pe_lc (own := [("_law_one", 2)]) (g := gName 2) rfl sc__law_is_object.nd (pi_tup (pe_ix ix_tup (pv 0) pe_int (fun _ _ => rfl))) (blkOk_by (own := [("_law_one", 2)]) (N := ["_law_value", "_law_good", "_law_one"]) (sc := defScope (stm 48)) (by decide +kernel)) (fun _ _ _ _ _ => pg_name (i := 2) sc__law_is_object.nd rfl (Or.inl rfl)) (fun _ _ _ _ _ => pts_one (pt_not (pt_val (k_call G__law_is_number N__law_is_number hr (by decide) rfl (pa_cons (pv 2) (pa_cons pe_int (pa_cons pe_int pa_nil))))))) (fun _ _ _ _ _ => (pv 2))) (pe_lst pa_nil) (nomark _))))))) pss_nil)
      (pss_one (ps_ret (pe_and (pe_cmpR op_eq (pe_ix ix_tup (pv 0) pe_int (fun _ _ => rfl)) pe_str (nomark _)) (pe_and (pe_cmpR op_eq (k_len B.len rfl (pa_cons (pv 0) pa_nil)) pe_int (nomark _)) (pe_one (k_call G__law_is_rows N__law_is_rows hr (by decide) rfl (pa_cons (pe_ix ix_tup (pv 0) pe_int (fun _ _ => rfl)) pa_nil))))))))))), pr_start h fun as c D r ok k => ?_⟩)
  obtain ⟨a, d, rfl, ha, sh, rfl⟩ := r
  rcases ha with rfl | ⟨ds, rfl, rfl⟩
  · cases d with
    | tuple ds =>
      rcases ds with _ | ⟨x, _ | ⟨y, r⟩⟩
      · refine' q_guardT (b := true) (EvT.is ?h ?e) rfl (st_ret ev_bl (k.eq rfl rfl))
        case h => exact et_or (et_not (et_B (ev_isTup (ev_dat rfl) rfl))) fun _ => et_or (y := true) (et_test (ev_inN (neg := true) (ds := [.int 2, .int 3]) (ev_lenB (ev_dat rfl) (.inr rfl)) (ev_lst (as := [.f (.int 2), .f (.int 3)]) (by walk_at "k00a") rfl (by decide)) (.inl rfl) rfl)) fun z => by cases z
        case e => rfl
      · refine' q_guardT (b := true) (EvT.is ?h ?e) rfl (st_ret ev_bl (k.eq ?z rfl))
        case h => exact et_or (et_not (et_B (ev_isTup (ev_dat rfl) rfl))) fun _ => et_or (y := true) (et_test (ev_inN (neg := true) (ds := [.int 2, .int 3]) (ev_lenB (ev_dat rfl) (.inr rfl)) (ev_lst (as := [.f (.int 2), .f (.int 3)]) (by walk_at "k00a") rfl (by decide)) (.inl rfl) rfl)) fun z => by cases z
        case e => rfl
        case z => cases x <;> rfl
      · by_cases hl : r.length ≤ 1
        · have shy : Sh 40 y := (Sh.ofTup (n := 40) sh).each y (by simp)
          have i0 : atI (x :: y :: r) 0 = some x := atI_nat rfl
          have i1 : atI (x :: y :: r) 1 = some y := atI_nat rfl
          have inl : ((if true = true then !([2, 3] : List Int).contains ((x :: y :: r).length : Int) else ([2, 3] : List Int).contains ((x :: y :: r).length : Int))) = false := by
            rcases r with _ | ⟨z, _ | ⟨u, r⟩⟩
            · rfl
            · rfl
            · simp at hl
          cases x with
          | str nm =>
            refine' q_guardF (EvT.is ?h ?e) rfl ?nx0
            case h => exact et_or (et_not (et_B (ev_isTup (ev_dat rfl) rfl))) fun _ => et_or (et_test (ev_inN (neg := true) (ds := [.int 2, .int 3]) (ev_lenB (ev_dat rfl) (.inr rfl)) (ev_lst (as := [.f (.int 2), .f (.int 3)]) (by walk_at "k00a") rfl (by decide)) (.inl rfl) rfl)) fun _ => et_not (et_B (ev_isStr (ev_ixT (ev_dat rfl) ev_int i0) rfl))
            case e =>
              show (!true || ((if true = true then !([2, 3] : List Int).contains ((PyData.str nm :: y :: r).length : Int) else ([2, 3] : List Int).contains ((PyData.str nm :: y :: r).length : Int)) || !true)) = false
              rw [inl]
              rfl
            refine' q_guard (et_test (ev_inS (ws := ["counter", "register", "set", "agree"]) (ev_ixT (ev_dat rfl) ev_int i0) (ev_lst (by walk_at "k00a") rfl (by decide)) (.inl ⟨_, rfl, rfl⟩))) (fun hb => st_ret ?h3 (k.eq ?e3 rfl)) fun hb => ?nx1
            case h3 => exact ev_andV (ev_eqI (ev_lenB (ev_dat rfl) (.inr rfl)) ev_int) fun _ => ev_small (by walk_at "k00a") rfl
            case e3 =>
              have hb : List.contains (["counter", "register", "set", "agree"] : List Str) nm = true := hb
              show AR.f (.bool (if List.contains (["counter", "register", "set", "agree"] : List Str) nm = true then _ else _)) = _
              rw [if_pos hb]
            have hb : List.contains (["counter", "register", "set", "agree"] : List Str) nm = false := hb
            refine' q_guard (et_test (ev_inS (ws := ["stack", "queue"]) (ev_ixT (ev_dat rfl) ev_int i0) (ev_lst (by walk_at "k00a") rfl (by decide)) (.inl ⟨_, rfl, rfl⟩))) (fun hc => st_ret ?h4 (k.eq ?e4 rfl)) fun hc => ?nx2
            case h4 =>
              refine ev_andV (y := smallD y 1 3 && smallD (r.headD .none) 1 3) (ev_eqI (ev_lenB (ev_dat rfl) (.inr rfl)) ev_int) fun hl => ?_
              have hl := of_decide_eq_true hl
              obtain ⟨z, rfl⟩ : ∃ z, r = [z] := by
                rcases r with _ | ⟨z, _ | ⟨u, r⟩⟩
                · simp at hl
                · exact ⟨z, rfl⟩
                · simp at hl
                  omega
              exact ev_andV (ev_small (by walk_at "k00a") rfl) fun _ => ev_small (lo := 1) (hi := 3) (d := ([z] : List PyData).headD .none) (by walk_at "k00a") rfl
            case e4 =>
              have hc : List.contains (["stack", "queue"] : List Str) nm = true := hc
              show AR.f (.bool (if List.contains (["counter", "register", "set", "agree"] : List Str) nm = true then _ else if List.contains (["stack", "queue"] : List Str) nm = true then _ else _)) = _
              rw [if_neg (by rw [hb]; decide), if_pos hc]
            have hc : List.contains (["stack", "queue"] : List Str) nm = false := hc
            refine' q_guard (et_test (ev_eqS (ev_ixT (ev_dat rfl) ev_int i0) ev_str)) (fun hd => ?bank) fun hd => st_ret ?h6 (k.eq ?e6 rfl)
            case bank =>
              have e5 : AR.f (.bool (kindD (.tuple (.str nm :: y :: r)))) = AR.f (.bool (decide (((PyData.str nm :: y :: r).length : Int) = 2) && bankD y)) := by
                show AR.f (.bool (if List.contains (["counter", "register", "set", "agree"] : List Str) nm = true then _ else if List.contains (["stack", "queue"] : List Str) nm = true then _ else if decide (nm = "bank") = true then _ else _)) = _
                rw [if_neg (by rw [hb]; decide), if_neg (by rw [hc]; decide), if_pos hd]
              by_cases hy : isTup y = true
              · obtain ⟨ps, rfl⟩ : ∃ ps, y = .tuple ps := by cases y <;> first | exact ⟨_, rfl⟩ | cases hy
                refine' q_asgF (d := .bool (decide (((PyData.str nm :: PyData.tuple ps :: r).length : Int) = 2) && (true && ([2, 3] : List Int).contains (ps.length : Int)))) ?g1 ?nx3
                case g1 => exact ev_andV (ev_eqI (ev_lenB (ev_dat rfl) (.inr rfl)) ev_int) fun _ => ev_andV (ev_isTup (ev_ixT (ev_dat rfl) ev_int i1) rfl) fun _ => ev_inN (neg := false) (ds := [.int 2, .int 3]) (ev_lenB (ev_ixT (ev_dat rfl) ev_int i1) (.inr rfl)) (ev_lst (as := [.f (.int 2), .f (.int 3)]) (by walk_at "k00a") rfl (by decide)) (.inl rfl) rfl
                have len23 : ([2, 3] : List Int).contains (ps.length : Int) = (decide (2 ≤ (ps.length : Int)) && decide ((ps.length : Int) ≤ 3)) := by
                  rw [Bool.eq_iff_iff, List.contains_iff_mem, Bool.and_eq_true, decide_eq_true_eq, decide_eq_true_eq]
                  simp
                  omega
                have shp : ShAll 60 ps := .of fun x hx => ((Sh.ofTup (n := 39) shy).each x hx).mono (by decide)
                refine' st_ret ?h7 ((k.eq e5 rfl).eq ?e7 rfl)
                case h7 =>
                  refine ev_andV (y := ps.all fun x => !!smallD x 0 5) (ev_dat rfl) fun hg => ?_
                  have hlp : ps.length ≤ 3 := by
                    rw [len23] at hg
                    simp at hg
                    omega
                  exact et_noneEq (fun x => !smallD x 0 5) (evi_tup (ev_ixT (ev_dat rfl) ev_int i1)) (by decide) (of_decide_eq_true rfl) (by omega) shp fun x hx => et_not (et_B (ev_small (eva_cons (ev_dat rfl) (eva_cons ev_int (eva_cons ev_int eva_nil))) rfl))
                case e7 =>
                  show AR.f (.bool (_ && ((decide (2 ≤ (ps.length : Int)) && decide ((ps.length : Int) ≤ 3)) && ps.all fun x => smallD x 0 5))) = _
                  rw [len23, Bool.true_and]
                  simp only [Bool.not_not, Bool.and_assoc]
              · have hy := Bool.eq_false_iff.mpr hy
                have by0 : bankD y = false := by cases y <;> first | rfl | cases hy
                refine' q_asgF (d := .bool (decide (((PyData.str nm :: y :: r).length : Int) = 2) && false)) ?g1 ?nx4
                case g1 => exact ev_andV (ev_eqI (ev_lenB (ev_dat rfl) (.inr rfl)) ev_int) fun _ => ev_and0 (ev_isTup (ev_ixT (ev_dat rfl) ev_int i1) rfl) hy
                refine' st_ret (ev_and0 (ev_dat rfl) (Bool.and_false _)) ((k.eq e5 rfl).eq ?e7 rfl)
                case e7 => rw [by0, Bool.and_false]
            case h6 => exact ev_andV (ev_eqS (ev_ixT (ev_dat rfl) ev_int i0) ev_str) fun _ => ev_andV (ev_eqI (ev_lenB (ev_dat rfl) (.inr rfl)) ev_int) fun _ => ev_rowsL (by walk_at "k00a") shy
            case e6 =>
              show AR.f (.bool (if List.contains (["counter", "register", "set", "agree"] : List Str) nm = true then _ else if List.contains (["stack", "queue"] : List Str) nm = true then _ else if decide (nm = "bank") = true then _ else _)) = _
              rw [if_neg (by rw [hb]; decide), if_neg (by rw [hc]; decide), if_neg (by rw [hd]; decide)]
          | _ =>
            refine' q_guardT (b := true) (EvT.is ?h ?e) rfl (st_ret ev_bl (k.eq rfl rfl))
            case h => exact et_or (et_not (et_B (ev_isTup (ev_dat rfl) rfl))) fun _ => et_or (et_test (ev_inN (neg := true) (ds := [.int 2, .int 3]) (ev_lenB (ev_dat rfl) (.inr rfl)) (ev_lst (as := [.f (.int 2), .f (.int 3)]) (by walk_at "k00a") rfl (by decide)) (.inl rfl) rfl)) fun _ => et_not (et_B (ev_isStr (ev_ixT (ev_dat rfl) ev_int i0) rfl))
            case e => exact (congrArg (fun b => !true || (b || !false)) inl).trans rfl
        · have z : kindD (.tuple (x :: y :: r)) = false := by
            rcases r with _ | ⟨a, _ | ⟨b, r⟩⟩
            · simp at hl
            · simp at hl
            · cases x <;> first | rfl | exact kind_long
          have inl : ((if true = true then !([2, 3] : List Int).contains ((x :: y :: r).length : Int) else ([2, 3] : List Int).contains ((x :: y :: r).length : Int))) = true := by
            rw [if_pos rfl, Bool.not_eq_true', ← Bool.not_eq_true, List.contains_iff_mem]
            simp
            omega
          refine' q_guardT (b := true) (EvT.is ?h ?e) rfl (st_ret ev_bl (k.eq (by rw [z]) rfl))
          case h => exact et_or (et_not (et_B (ev_isTup (ev_dat rfl) rfl))) fun _ => et_or1 (et_test (ev_inN (neg := true) (ds := [.int 2, .int 3]) (ev_lenB (ev_dat rfl) (.inr rfl)) (ev_lst (as := [.f (.int 2), .f (.int 3)]) (by walk_at "k00a") rfl (by decide)) (.inl rfl) rfl)) inl
          case e => rw [Bool.or_true]
    | _ =>
      refine' q_guardT (b := true) ?h rfl (st_ret ev_bl (k.eq rfl rfl))
      case h => exact et_or1 (et_not (et_B (ev_isTup (ev_dat rfl) rfl))) rfl
  · refine' q_guardT (b := true) ?h rfl (st_ret ev_bl (k.eq rfl rfl))
    case h => exact et_or1 (et_not (et_B (ev_isTup (ev_arg rfl) rfl))) rfl
end
end K00

/-! Part J. -/
set_option Elab.async false
set_option linter.all false
set_option autoImplicit false
set_option maxRecDepth 100000
set_option maxHeartbeats 4000000
/-! The law's own view of states and what calls do. -/
namespace K00
open PySem PySem.Spec PyProof.Rows L2
local macro_rules | `(tactic| walk_at "k00a") => `(tactic| first
  | (with_reducible exact eva_nil)
  | ((with_reducible refine' eva_cons ?k1 ?k2); (case k1 => walk_at "k00e"); (case k2 => walk_at "k00a"))
  | ((with_reducible refine' eva_star ?k1 ?k2); (case k1 => walk_at "k00e"); (case k2 => walk_at "k00a")))
local macro_rules | `(tactic| walk_at "k00o") => `(tactic| first
  | (with_reducible exact evo_no)
  | ((with_reducible refine' evo_some ?k1); (case k1 => walk_at "k00e")))
local macro_rules | `(tactic| walk_at "k00e") => `(tactic| first
  | (with_reducible exact ev_int)
  | (with_reducible exact ev_str)
  | (with_reducible exact ev_bl)
  | (with_reducible exact ev_non)
  | ((with_reducible refine' ev_dat ?k1); (case k1 => rfl))
  | ((with_reducible refine' ev_own ?k1); (case k1 => rfl))
  | ((with_reducible refine' ev_argF ?k1 ?k2); (case k1 => rfl); (case k2 => rfl))
  | ((with_reducible refine' ev_arg ?k1); (case k1 => rfl))
  | ((with_reducible refine' ev_genF ?k1 ?k2); (case k1 => rfl); (case k2 => rfl))
  | ((with_reducible refine' ev_gen ?k1); (case k1 => rfl))
  | ((with_reducible refine' ev_raw ?k1); (case k1 => rfl))
  | ((with_reducible refine' ev_ixT ?k1 ?k2 ?k3); (case k1 => walk_at "k00e"); (case k2 => walk_at "k00e"); (case k3 => walk_at "k00i"))
  | ((with_reducible refine' ev_ixL ?k1 ?k2 ?k4 ?k3); (case k1 => walk_at "k00e"); (case k2 => walk_at "k00e"); (case k4 => first | exact Or.inl rfl | exact Or.inr rfl); (case k3 => walk_at "k00i"))
  | ((with_reducible refine' ev_isInt ?k1 ?k2); (case k1 => walk_at "k00e"); (case k2 => rfl))
  | ((with_reducible refine' ev_isBool ?k1 ?k2); (case k1 => walk_at "k00e"); (case k2 => rfl))
  | ((with_reducible refine' ev_isStr ?k1 ?k2); (case k1 => walk_at "k00e"); (case k2 => rfl))
  | ((with_reducible refine' ev_isTup ?k1 ?k2); (case k1 => walk_at "k00e"); (case k2 => rfl))
  | ((with_reducible refine' ev_isLst ?k1 ?k2); (case k1 => walk_at "k00e"); (case k2 => rfl))
  | ((with_reducible refine' ev_isSeq ?k1 ?k2); (case k1 => walk_at "k00e"); (case k2 => rfl))
  | ((with_reducible refine' ev_lenB ?k1 ?k2); (case k1 => walk_at "k00e"); (case k2 => first | exact Or.inl rfl | exact Or.inr rfl))
  | ((with_reducible refine' ev_int2 ?k1 ?k2); (case k1 => walk_at "k00e"); (case k2 => walk_at "k00e"))
  | ((with_reducible refine' ev_cmp2 ?k1 ?k2); (case k1 => walk_at "k00e"); (case k2 => walk_at "k00e"))
  | ((with_reducible refine' ev_intC ?k1 ?k2 ?k3); (case k1 => walk_at "k00e"); (case k2 => walk_at "k00e"); (case k3 => walk_at "k00c"))
  | ((with_reducible refine' ev_eqS ?k1 ?k2); (case k1 => walk_at "k00e"); (case k2 => walk_at "k00e"))
  | ((with_reducible refine' ev_eqI ?k1 ?k2); (case k1 => walk_at "k00e"); (case k2 => walk_at "k00e"))
  | ((with_reducible refine' ev_neI ?k1 ?k2); (case k1 => walk_at "k00e"); (case k2 => walk_at "k00e"))
  | ((with_reducible refine' ev_eqB ?k1 ?k2); (case k1 => walk_at "k00e"); (case k2 => walk_at "k00e"))
  | ((with_reducible refine' ev_neB ?k1 ?k2); (case k1 => walk_at "k00e"); (case k2 => walk_at "k00e"))
  | ((with_reducible refine' ev_eqD ?k1 ?k2 ?k3 ?k4 ?k5 ?k6); (case k1 => walk_at "k00e"); (case k2 => walk_at "k00e"); (case k3 => rfl); (case k4 => rfl); (case k5 => walk_at "k00s"); (case k6 => walk_at "k00s"))
  | ((with_reducible refine' ev_neD ?k1 ?k2 ?k3 ?k4 ?k5 ?k6); (case k1 => walk_at "k00e"); (case k2 => walk_at "k00e"); (case k3 => rfl); (case k4 => rfl); (case k5 => walk_at "k00s"); (case k6 => walk_at "k00s"))
  | ((with_reducible refine' ev_inD ?k1 ?k2 ?k3 ?k4 ?k5 ?k6); (case k1 => walk_at "k00e"); (case k2 => walk_at "k00e"); (case k3 => rfl); (case k4 => rfl); (case k5 => walk_at "k00s"); (case k6 => walk_at "k00s"))
  | ((with_reducible refine' ev_niD ?k1 ?k2 ?k3 ?k4 ?k5 ?k6); (case k1 => walk_at "k00e"); (case k2 => walk_at "k00e"); (case k3 => rfl); (case k4 => rfl); (case k5 => walk_at "k00s"); (case k6 => walk_at "k00s"))
  | ((with_reducible refine' ev_isNone ?k1 ?k2); (case k1 => walk_at "k00e"); (case k2 => rfl))
  | ((with_reducible refine' ev_notNone ?k1 ?k2); (case k1 => walk_at "k00e"); (case k2 => rfl))
  | ((with_reducible refine' ev_neg ?k1); (case k1 => walk_at "k00e"))
  | ((with_reducible refine' ev_tup ?k1 ?k2 ?k3); (case k1 => walk_at "k00a"); (case k2 => first | rfl | exact allF_app _ _); (case k3 => walk_at "k00l"))
  | ((with_reducible refine' ev_lst ?k1 ?k2 ?k3); (case k1 => walk_at "k00a"); (case k2 => first | rfl | exact allF_app _ _); (case k3 => walk_at "k00l"))
  | ((with_reducible refine' ev_slT ?k1 ?k2 ?k3); (case k1 => walk_at "k00e"); (case k2 => walk_at "k00o"); (case k3 => walk_at "k00o"))
  | ((with_reducible refine' ev_catT ?k1 ?k2 ?k3); (case k1 => walk_at "k00e"); (case k2 => walk_at "k00e"); (case k3 => walk_at "k00l"))
  | ((with_reducible refine' ev_cat ?k1 ?k2 ?k4 ?k5 ?k3); (case k1 => walk_at "k00e"); (case k2 => walk_at "k00e"); (case k4 => first | exact Or.inl rfl | exact Or.inr rfl); (case k5 => first | exact Or.inl rfl | exact Or.inr rfl); (case k3 => walk_at "k00l"))
  | ((with_reducible refine' ev_tupOf ?k1 ?k2); (case k1 => walk_at "k00e"); (case k2 => first | exact Or.inl rfl | exact Or.inr rfl))
  | ((with_reducible refine' ev_lstOf ?k1); (case k1 => walk_at "k00e"))
  | ((with_reducible refine' ev_intI ?k1); (case k1 => walk_at "k00e"))
  | ((with_reducible refine' ev_intB ?k1); (case k1 => walk_at "k00e"))
  | ((with_reducible refine' ev_and0 ?k1 ?k2); (case k1 => walk_at "k00e"); (case k2 => first | rfl | assumption))
  | ((with_reducible refine' ev_or1 ?k1 ?k2); (case k1 => walk_at "k00e"); (case k2 => first | rfl | assumption))
  | ((with_reducible refine' ev_ifT ?k1 ?k2 ?k3); (case k1 => walk_at "k00t"); (case k2 => first | rfl | assumption); (case k3 => walk_at "k00e"))
  | ((with_reducible refine' ev_ifF ?k1 ?k2 ?k3); (case k1 => walk_at "k00t"); (case k2 => first | rfl | assumption); (case k3 => walk_at "k00e"))
  | ((with_reducible refine' ev_andV ?k1 ?k2); (case k1 => walk_at "k00e"); (case k2 => intro hb; walk_at "k00e"))
  | ((with_reducible refine' ev_orV ?k1 ?k2); (case k1 => walk_at "k00e"); (case k2 => intro hb; walk_at "k00e"))
  | ((with_reducible refine' ev_notV ?k1); (case k1 => walk_at "k00e"))
  | ((with_reducible refine' ev_chain ?k1 ?k2 ?k3); (case k1 => walk_at "k00e"); (case k2 => walk_at "k00e"); (case k3 => walk_at "k00e"))
  | ((with_reducible refine' ev_inT ?k1 ?k2 ?k3 ?k4); (case k1 => walk_at "k00e"); (case k2 => walk_at "k00e"); (case k3 => walk_at "k00w"); (case k4 => rfl))
  | ((with_reducible refine' ev_inN ?k1 ?k2 ?k3 ?k4); (case k1 => walk_at "k00e"); (case k2 => walk_at "k00e"); (case k3 => walk_at "k00w"); (case k4 => rfl))
  | ((with_reducible refine' ev_inI ?k1 ?k2 ?k3); (case k1 => walk_at "k00e"); (case k2 => walk_at "k00e"); (case k3 => exact Or.inr (Or.inr rfl)))
  | ((with_reducible refine' ev_lcW ?k1 ?k2 ?k3 ?k4); (case k1 => walk_at "k00n"); (case k2 => decide); (case k3 => walk_at "k00x"); (case k4 => first | decide | exact of_decide_eq_true rfl))
  | walk_at "k00r"
  | (with_reducible exact ev_c))
local macro_rules | `(tactic| walk_at "k00k") => `(tactic| first
  | exact Coes.nil
  | ((refine' Coes.cons ?k1 ?k2); (case k1 => first | exact coe_rfl | exact coe_b rfl); (case k2 => walk_at "k00k")))
local macro_rules | `(tactic| walk_at "k00i") => `(tactic| first | rfl | assumption)
local macro_rules | `(tactic| walk_at "k00c") => `(tactic| first | trivial | decide | omega | assumption | exact Or.inl ⟨by omega, by omega⟩)
local macro_rules | `(tactic| walk_at "k00l") => `(tactic| first | decide | (simp; done) | (simp; omega) | omega | assumption | (simp [rangeR_len2, fzs]; done) | (simp [rangeR_len2, fzs]; omega))
local macro_rules | `(tactic| walk_at "k00s") => `(tactic| first | rfl | decide +kernel | assumption | exact Sh.shaped (by assumption))
local macro_rules | `(tactic| walk_at "k00t") => `(tactic| first
  | ((with_reducible refine' et_test ?k1); (case k1 => walk_at "k00e"))
  | ((with_reducible refine' et_B ?k1); (case k1 => walk_at "k00e"))
  | ((with_reducible refine' et_not ?k1); (case k1 => walk_at "k00t"))
  | ((with_reducible refine' et_and0 ?k1 ?k2); (case k1 => walk_at "k00t"); (case k2 => first | rfl | assumption))
  | ((with_reducible refine' et_or1 ?k1 ?k2); (case k1 => walk_at "k00t"); (case k2 => first | rfl | assumption))
  | ((with_reducible refine' et_and ?k1 ?k2); (case k1 => walk_at "k00t"); (case k2 => intro hb; walk_at "k00t"))
  | ((with_reducible refine' et_or ?k1 ?k2); (case k1 => walk_at "k00t"); (case k2 => intro hb; walk_at "k00t"))
  | (with_reducible exact et_yes))

local macro_rules | `(tactic| walk_at "k00n") => `(tactic| first
  | ((with_reducible refine' evi_rng1 ?k1 ?k2); (case k1 => walk_at "k00e"); (case k2 => walk_at "k00y"))
  | ((with_reducible refine' evi_rng2 ?k1 ?k2 ?k3); (case k1 => walk_at "k00e"); (case k2 => walk_at "k00e"); (case k3 => walk_at "k00y"))
  | ((with_reducible refine' evi_tup ?k1); (case k1 => walk_at "k00e"))
  | ((with_reducible refine' evi_lst ?k1 ?k2); (case k1 => walk_at "k00e"); (case k2 => first | exact Or.inl rfl | exact Or.inr rfl)))
local macro_rules | `(tactic| walk_at "k00y") => `(tactic| first | decide | omega | (simp; omega) | assumption)
local macro_rules | `(tactic| walk_at "k00x") => `(tactic| first | decide | assumption | (rw [rangeR_iv, List.length_map]; unfold iv; rw [List.length_map, List.length_range]; omega))
local macro_rules | `(tactic| walk_at "k00w") => `(tactic| first | exact Or.inr (Or.inr rfl) | exact Or.inl rfl | exact Or.inr (Or.inl rfl))
local macro_rules | `(tactic| walk_at "k00b") => `(tactic| first | decide +kernel | rfl | assumption | (simp; done))
local macro_rules | `(tactic| walk_at "k00g") => `(tactic| first
  | ((with_reducible refine' q_asgF ?k1 ?k2); (case k1 => walk_at "k00e"))
  | ((with_reducible refine' q_guardF ?k1 ?k2 ?k3); (case k1 => walk_at "k00t"); (case k2 => walk_at "k00b"))
  | ((with_reducible refine' q_guardT ?k1 ?k2 ?k3); (case k1 => walk_at "k00t"); (case k2 => walk_at "k00b"))
  | ((with_reducible refine' q_two ?k1 ?k2); (case k1 => walk_at "k00e"))
  | ((with_reducible refine' q_par ?k1 ?k2); (case k1 => walk_at "k00a"))
  | ((with_reducible refine' q_par3 ?k1 ?k2); (case k1 => walk_at "k00a")))
local macro_rules | `(tactic| walk_at "k00f") => `(tactic| ((refine' Ev.is ?k1 ?k2); (case k1 => walk_at "k00e"); (case k2 => rfl)))
local macro_rules | `(tactic| walk_at "k00r") => `(tactic| first
  | ((with_reducible refine' ev_small ?k1 ?k2); (case k1 => walk_at "k00a"); (case k2 => rfl))
  | ((with_reducible refine' ev_bank ?k1); (case k1 => walk_at "k00a"))
  | ((with_reducible refine' ev_table ?k1); (case k1 => walk_at "k00a")))
section
variable {P : Program} {w : World} {K : PySem.W.Frag} {mg : Str → Option Value} {base : Heap} {f : Addr} {fd : FuncData}
theorem sc__law_first : FnScope ["_law_thing"] ["_law_thing"] (defScope (stm 42)) := ⟨rfl, rfl, rfl, by decide +kernel, rfl, by decide +kernel, by decide +kernel⟩
theorem sc__law_do : FnScope ["_law_thing", "_law_state", "_law_call", "_law_name", "_law_word", "_law_left", "_law_one", "_law_k"] ["_law_thing", "_law_state", "_law_call"] (defScope (stm 43)) := ⟨rfl, rfl, rfl, by decide +kernel, rfl, by decide +kernel, by decide +kernel⟩
theorem ok__law_first (F : FnP K "_law_first" 42 f fd) (B : Bt mg) : FnOk P w K mg base CX0 1 f fd ["_law_thing"] (Pr relFirst) := by
  refine F.ok sc__law_first (fun vs H Q E h => pr_len (fun as c r => by obtain ⟨t, _, rfl, _⟩ := r; rfl) h) (fun cdv A outer s H vs Q E hr h => ⟨_, PSs.nox (pss_cons (ps_if (pt_cmpR op_in_seq (pe_ix ix_tup (pv 0) pe_int (fun _ _ => rfl)) (pe_lst (pa_cons pe_str (pa_cons pe_str (pa_cons pe_str pa_nil)))) (by rfl)) (pss_one (ps_ret (pe_tup pa_nil))) pss_nil)
      (pss_one (ps_ret (pe_ifExp (pt_cmpR op_eq (pe_ix ix_tup (pv 0) pe_int (fun _ _ => rfl)) pe_str (nomark _)) (pe_ix ix_tup (pv 0) pe_int (fun _ _ => rfl)) (pe_ifExp (pt_cmpR op_eq (pe_ix ix_tup (pv 0) pe_int (fun _ _ => rfl)) pe_str (nomark _)) pe_non pe_int))))), pr_start h fun as c D r ok k => ?_⟩)
  obtain ⟨t, ht, rfl, rfl⟩ := r
  cases t
  all_goals
    repeat walk_at "k00g"
    refine' st_ret (Ev.is ?h ?e) k
    case h => walk_at "k00e"
    case e => rfl
/-- the law's bank, one amount -/
def bankAt (ns : List Int) (a b x : Int) (d : PyData) : PyData := match d with
  | .int k => .int (ns.getD k.toNat 0 - x * (if decide (k = a) = true then 1 else 0) + x * (if decide (k = b) = true then 1 else 0))
  | _ => .none
theorem ok__law_do (F : FnP K "_law_do" 43 f fd) (B : Bt mg) : FnOk P w K mg base CX0 2 f fd ["_law_thing", "_law_state", "_law_call"] (Pr relStep) := by
  refine F.ok sc__law_do (fun vs H Q E h => pr_len (fun as c r => by obtain ⟨t, s, l, _, _, _, rfl, _⟩ := r; rfl) h) (fun cdv A outer s H vs Q E hr h => ⟨_, PSs.nox (pss_cons (ps_par (i := 3) (j := 4) rfl sc__law_do.nd rfl rfl (by decide) rfl rfl (pa_cons (pe_ix ix_tup (pv 0) pe_int (fun _ _ => rfl)) (pa_cons (pe_ix ix_tup (pv 2) pe_int (fun _ _ => rfl)) pa_nil)) (by rfl))
      (pss_cons (ps_if (pt_cmpR op_eq (pv 3) pe_str (nomark _)) (pss_one (ps_ret (pe_ix ix_tup (pe_ix ix_tup (pe_ix ix_tup (pv 0) pe_int (fun _ _ => rfl)) (pv 1) (fun _ _ => rfl)) (pe_ix ix_tup (pv 2) pe_int (fun _ _ => rfl)) (fun _ _ => rfl)))) pss_nil)
      (pss_cons (ps_if (pt_cmpR op_eq (pv 4) pe_str (nomark _)) (pss_one (ps_ret (pe_tup (pa_cons (pv 1) (pa_cons (pe_ifExp (pt_cmpR op_eq (pv 3) pe_str (nomark _)) (pe_ix ix_tup (pv 1) (pe_ix ix_tup (pv 2) pe_int (fun _ _ => rfl)) (fun _ _ => rfl)) (pv 1)) pa_nil))))) pss_nil)
      (pss_cons (ps_if (pt_cmpR op_eq (pv 3) pe_str (nomark _)) (pss_one (ps_ret (pe_tup (pa_cons (pe_op op_mod (k_int B.int rfl (pa_cons (pe_op op_add (pv 1) (pe_ix ix_tup (pv 2) pe_int (fun _ _ => rfl))) pa_nil)) (pe_ix ix_tup (pv 0) pe_int (fun _ _ => rfl))) (pa_cons (pv 1) pa_nil))))) pss_nil)
      (pss_cons (ps_if (pt_cmpR op_eq (pv 3) pe_str (nomark _)) (pss_one (ps_ret (pe_tup (pa_cons (pe_ix ix_tup (pv 2) pe_int (fun _ _ => rfl)) (pa_cons (pe_ifExp (pt_cmpR op_eq (pv 4) pe_str (nomark _)) pe_non (pv 1)) pa_nil))))) pss_nil)
      (pss_cons (ps_if (pt_cmpR op_eq (pv 3) pe_str (nomark _)) (pss_one (ps_ret (pe_ifExp (pt_cmpR op_notZ (pv 1) pe_non (nomark _)) (pe_tup (pa_cons (pv 1) (pa_cons (pv 1) pa_nil))) (pe_tup (pa_cons (pe_ix ix_tup (pv 2) pe_int (fun _ _ => rfl)) (pa_cons (pe_ix ix_tup (pv 2) pe_int (fun _ _ => rfl)) pa_nil)))))) pss_nil)
      (pss_cons (ps_if (pt_cmpR op_eq (pv 3) pe_str (nomark _)) (pss_cons (ps_setLc (i := 5) (own := [("_law_one", 6)]) (g := gName 6) rfl sc__law_do.nd rfl rfl (sw_true rfl rfl rfl (by decide +kernel)) (pi_tup (pv 1)) (blkOk_by (own := [("_law_one", 6)]) (N := ["_law_thing", "_law_state", "_law_call", "_law_name", "_law_word", "_law_left", "_law_one", "_law_k"]) (sc := defScope (stm 43)) (by decide +kernel)) (fun _ _ _ _ _ => pg_name (i := 6) sc__law_do.nd rfl (Or.inl rfl)) (fun _ _ _ _ _ => pts_one (pt_cmpR ((op_neD hr.units) : OpR _ _ (rNeD K)) (pv 6) (pe_ix (ix_tup : IxR _ (rIxT K)) (pv 2) pe_int (fun _ _ => rfl)) (nomark _))) (fun _ _ _ _ _ => (pv 6)))
      (pss_one (ps_ret (pe_tup (pa_cons (pe_ifExp (pt_cmpR op_eq (pv 4) pe_str (nomark _)) (pv 1) (k_tuple B.tuple rfl (pa_cons (k_sorted hr B.sorted rfl (pa_cons (pe_op op_cat (pv 5) (pe_ifExp (pt_cmpR op_eq (pv 4) pe_str (nomark _)) (pe_lst (pa_cons (pe_ix ix_tup (pv 2) pe_int (fun _ _ => rfl)) pa_nil)) (pe_lst pa_nil))) pa_nil)) pa_nil))) (pa_cons (pe_cmpR op_ne (pe_cmpR op_in_seq (pe_ix ix_tup (pv 2) pe_int (fun _ _ => rfl)) (pv 1) (by rfl)) (pe_cmpR op_eq (pv 4) pe_str (nomark _)) (nomark _)) pa_nil)))))) pss_nil)
      (pss_cons (ps_if (pt_cmpR op_eq (pv 3) pe_str (nomark _)) (pss_cons (ps_if (pt_cmpR op_lt (pe_ix ix_tup (pv 1) (pe_ix ix_tup (pv 2) pe_int (fun _ _ => rfl)) (fun _ _ => rfl)) (pe_ix ix_tup (pv 2) pe_int (fun _ _ => rfl)) (nomark _)) (pss_one (ps_ret (pe_tup (pa_cons (pv 1) (pa_cons pe_bl pa_nil))))) pss_nil)
      (pss_one (ps_ret (pe_tup (pa_cons (k_tuple B.tuple rfl (pa_cons (pe_lc (own := [("_law_k", 7)]) (g := gName 7) rfl sc__law_do.nd (pi_range1 (by rfl) B.range (pa_cons (k_len B.len rfl (pa_cons (pv 1) pa_nil)) pa_nil)) (blkOk_by (own := [("_law_k", 7)]) (N := ["_law_thing", "_law_state", "_law_call", "_law_name", "_law_word", "_law_left", "_law_one", "_law_k"]) (sc := defScope (stm 43)) (by decide +kernel)) (fun _ _ _ _ _ => pg_name (i := 7) sc__law_do.nd rfl (Or.inl rfl)) (fun _ _ _ _ _ => pts_nil) (fun _ _ _ _ _ => (pe_op op_add (pe_op op_sub (pe_ix (ix_tup : IxR _ (rIxT K)) (pv 1) (pv 7) (fun _ _ => rfl)) (pe_op op_mul (pe_ix (ix_tup : IxR _ (rIxT K)) (pv 2) pe_int (fun _ _ => rfl)) (k_int B.int rfl (pa_cons (pe_cmpR op_eq (pv 7) (pe_ix (ix_tup : IxR _ (rIxT K)) (pv 2) pe_int (fun _ _ => rfl)) (nomark _)) pa_nil)))) (pe_op op_mul (pe_ix (ix_tup : IxR _ (rIxT K)) (pv 2) pe_int (fun _ _ => rfl)) (k_int B.int rfl (pa_cons (pe_cmpR op_eq (pv 7) (pe_ix (ix_tup : IxR _ (rIxT K)) (pv 2) pe_int (fun _ _ => rfl)) (nomark _)) pa_nil)))))) pa_nil)) (pa_cons pe_bl pa_nil)))))) pss_nil)
      (pss_cons (ps_if (pt_cmpR op_in_seq (pv 4) (pe_lst (pa_cons pe_str (pa_cons pe_str pa_nil))) (by rfl)) (pss_one (ps_ret (pe_ifExp (pt_cmpR op_lt (k_len B.len rfl (pa_cons (pv 1) pa_nil)) (pe_ix ix_tup (pv 0) pe_int (fun _ _ => rfl)) (nomark _)) (pe_tup (pa_cons (pe_op op_catA (pv 1) (pe_tup (pa_cons (pe_ix ix_tup (pv 2) pe_int (fun _ _ => rfl)) pa_nil))) (pa_cons pe_bl pa_nil))) (pe_tup (pa_cons (pv 1) (pa_cons pe_bl pa_nil)))))) pss_nil)
      (pss_cons (ps_if (pt_cmpR (op_eqD hr.units) (pv 1) (pe_tup pa_nil) (nomark _)) (pss_one (ps_ret (pe_tup (pa_cons (pv 1) (pa_cons pe_non pa_nil))))) pss_nil)
      (pss_one (ps_ret (pe_ifExp (pt_cmpR op_eq (pv 4) pe_str (nomark _)) (pe_tup (pa_cons (pe_slice sl_tupA (pv 1) po_none (po_some (pe_un un_neg pe_int))) (pa_cons (pe_ix ix_tup (pv 1) (pe_un un_neg pe_int) (fun _ _ => rfl)) pa_nil))) (pe_tup (pa_cons (pe_slice sl_tupA (pv 1) (po_some pe_int) po_none) (pa_cons (pe_ix ix_tup (pv 1) pe_int (fun _ _ => rfl)) pa_nil)))))))))))))))), pr_start h fun as c D r ok k => ?_⟩)
  obtain ⟨t, s, l, ht, hs, hl, rfl, rfl⟩ := r
  cases t with
  | counter m =>
    have hm : 0 < m := by have := ht.1; omega
    cases s with
    | num s =>
      rcases hl with rfl | ⟨x, hx, rfl⟩
      · repeat walk_at "k00g"
        refine' st_ret (Ev.is ?h ?e) k
        case h => walk_at "k00e"
        case e => rfl
      · repeat walk_at "k00g"
        refine' st_ret (Ev.is ?h ?e) k
        case h => walk_at "k00e"
        case e => rfl
    | _ => exact hs.elim
  | register m =>
    cases s with
    | num s =>
      rcases hl with rfl | ⟨x, hx, rfl | rfl⟩
      · repeat walk_at "k00g"
        refine' st_ret (Ev.is ?h ?e) k
        case h => walk_at "k00e"
        case e => rfl
      · repeat walk_at "k00g"
        refine' st_ret (Ev.is ?h ?e) k
        case h => walk_at "k00e"
        case e => rfl
      · repeat walk_at "k00g"
        refine' st_ret (Ev.is ?h ?e) k
        case h => walk_at "k00e"
        case e => rfl
    | _ => exact hs.elim
  | stack r m =>
    cases s with
    | seq ns =>
      obtain ⟨hn, hk⟩ := hs
      rcases hl with rfl | ⟨x, hx, rfl⟩
      · rcases len2 ht.1 hn with rfl | ⟨a, rfl⟩ | ⟨a, b, rfl⟩
        all_goals
          repeat walk_at "k00g"
          refine' st_ret (Ev.is ?h ?e) k
          case h => walk_at "k00e"
          case e => rfl
      · rcases one2 ht.1 with rfl | rfl
        all_goals
          rcases len2 ht.1 hn with rfl | ⟨a, rfl⟩ | ⟨a, b, rfl⟩
          all_goals
            first
            | (exfalso; simp at hn; done)
            | (repeat walk_at "k00g"
               refine' st_ret (Ev.is ?h ?e) k
               case h => walk_at "k00e"
               case e => rfl)
    | _ => exact hs.elim
  | queue r m =>
    cases s with
    | seq ns =>
      obtain ⟨hn, hk⟩ := hs
      rcases hl with rfl | ⟨x, hx, rfl⟩
      · rcases len2 ht.1 hn with rfl | ⟨a, rfl⟩ | ⟨a, b, rfl⟩
        all_goals
          repeat walk_at "k00g"
          refine' st_ret (Ev.is ?h ?e) k
          case h => walk_at "k00e"
          case e => rfl
      · rcases one2 ht.1 with rfl | rfl
        all_goals
          rcases len2 ht.1 hn with rfl | ⟨a, rfl⟩ | ⟨a, b, rfl⟩
          all_goals
            first
            | (exfalso; simp at hn; done)
            | (repeat walk_at "k00g"
               refine' st_ret (Ev.is ?h ?e) k
               case h => walk_at "k00e"
               case e => rfl)
    | _ => exact hs.elim
  | agree m =>
    obtain ⟨x, hx, rfl⟩ := hl
    cases s with
    | non =>
      repeat walk_at "k00g"
      refine' st_ret (Ev.is ?h ?e) k
      case h => walk_at "k00e"
      case e => rfl
    | num s =>
      repeat walk_at "k00g"
      refine' st_ret (Ev.is ?h ?e) k
      case h => walk_at "k00e"
      case e => rfl
    | seq ns => exact hs.elim
  | table rows =>
    obtain ⟨x, hx, rfl⟩ := hl
    cases s with
    | num s =>
      have i1 := at_rows hs
      have i2 := at_pairs (row_at ht hs hx)
      repeat walk_at "k00g"
      refine' st_ret (Ev.is ?h ?e) k
      case h => walk_at "k00e"
      case e => rfl
    | _ => exact hs.elim
  | set m =>
    cases s with
    | seq ns =>
      have hs : ns ∈ subs m := hs
      have hb := sub_bound ht hs
      have fe : ∀ x : Int, ((ns.map PyData.int).filter fun d => !PyData.eqv d (.int x)).map id = (ns.filter fun y => !decide (y = x)).map .int := fun x => by
        rw [List.map_id, List.filter_map]
        rfl
      rcases hl with ⟨x, hx, rfl | rfl | rfl⟩
      · repeat walk_at "k00g"
        refine' q_asgL (ds := (ns.filter fun y => !decide (y = x)).map .int) (Ev.is (ev_lc (src := ns.map .int) (fun d => !PyData.eqv d (.int x)) id (evi_tup (by walk_at "k00f")) (by decide) (by simp; omega) (fun d hd => ?el1) fun d _ _ => by walk_at "k00f") (by rw [fe x])) fun p => ?rest1
        case el1 =>
          obtain ⟨y, _, rfl⟩ := List.mem_map.mp hd
          exact et_test (ev_neD (d := .int y) (e := .int x) (by walk_at "k00e") (by walk_at "k00e") rfl rfl rfl rfl)
        have flen : (ns.filter fun y => !decide (y = x)).length ≤ 3 := Nat.le_trans (List.length_filter_le _ _) hb.1
        have so := sub_sortL ht hs hx
        refine' st_ret (Ev.is ?h ?e) k
        case h =>
          exact ev_tup (as := [.f (.tuple ((if ns.contains x then ns else ins x ns).map .int)), .f (.bool (!decide (ns.contains x = true)))]) (eva_cons (ev_ifF (et_test (ev_eqS (ev_dat rfl) ev_str)) rfl (ev_tupOf (a := .l ((if ns.contains x then ns else ins x ns).map .int)) (Ev.is (ev_sort (ds := ((ns.filter fun y => !decide (y = x)) ++ [x]).map .int) (a := .l (((ns.filter fun y => !decide (y = x)) ++ [x]).map .int)) (Ev.is (ev_cat (es := [.int x]) (ev_own rfl) (ev_ifT (et_test (ev_eqS (ev_dat rfl) ev_str)) rfl (by walk_at "k00f")) (.inr rfl) (.inl rfl) (by rw [List.length_map]; simp; omega)) (by rw [List.map_append]; rfl)) (.inl rfl) so.alike so.sortable so.len so.dep) (by rw [so.eq])) (.inl rfl)))
            (eva_cons (ev_neB (x := ns.contains x) (y := true) (ev_inI (neg := false) (ws := ns) (by walk_at "k00e") (by walk_at "k00f") (.inr (.inr rfl))) (Ev.is (ev_eqS (ev_dat rfl) ev_str) rfl)) eva_nil)) rfl (by show 2 ≤ 100000; decide)
        case e =>
          show _ = AR.f (.tuple [(if ns.contains x = true then (Sta.seq ns, PyData.bool false) else (.seq (ins x ns), .bool true)).1.d, (if ns.contains x = true then (Sta.seq ns, PyData.bool false) else (.seq (ins x ns), .bool true)).2])
          cases ns.contains x <;> rfl
      · repeat walk_at "k00g"
        refine' q_asgL (ds := (ns.filter fun y => !decide (y = x)).map .int) (Ev.is (ev_lc (src := ns.map .int) (fun d => !PyData.eqv d (.int x)) id (evi_tup (by walk_at "k00f")) (by decide) (by simp; omega) (fun d hd => ?el2) fun d _ _ => by walk_at "k00f") (by rw [fe x])) fun p => ?rest2
        case el2 =>
          obtain ⟨y, _, rfl⟩ := List.mem_map.mp hd
          exact et_test (ev_neD (d := .int y) (e := .int x) (by walk_at "k00e") (by walk_at "k00e") rfl rfl rfl rfl)
        have flen : (ns.filter fun y => !decide (y = x)).length ≤ 3 := Nat.le_trans (List.length_filter_le _ _) hb.1
        have so := sub_sort0 ht hs hx
        refine' st_ret (Ev.is ?h ?e) k
        case h =>
          exact ev_tup (as := [.f (.tuple ((ns.filter fun y => !decide (y = x)).map .int)), .f (.bool (!decide (ns.contains x = false)))]) (eva_cons (ev_ifF (et_test (ev_eqS (ev_dat rfl) ev_str)) rfl (ev_tupOf (a := .l ((ns.filter fun y => !decide (y = x)).map .int)) (Ev.is (ev_sort (ds := (ns.filter fun y => !decide (y = x)).map .int) (a := .l ((ns.filter fun y => !decide (y = x)).map .int)) (Ev.is (ev_cat (es := []) (ev_own rfl) (ev_ifF (et_test (ev_eqS (ev_dat rfl) ev_str)) rfl (ev_lst eva_nil rfl (by decide))) (.inr rfl) (.inl rfl) (by rw [List.length_map]; simp; omega)) (by rw [List.append_nil])) (.inl rfl) so.alike so.sortable so.len so.dep) (by rw [so.eq])) (.inl rfl)))
            (eva_cons (ev_neB (x := ns.contains x) (y := false) (ev_inI (neg := false) (ws := ns) (by walk_at "k00e") (by walk_at "k00f") (.inr (.inr rfl))) (Ev.is (ev_eqS (ev_dat rfl) ev_str) rfl)) eva_nil)) rfl (by show 2 ≤ 100000; decide)
        case e =>
          show _ = AR.f (.tuple [(Sta.seq (ns.filter fun y => !decide (y = x))).d, .bool (ns.contains x)])
          cases ns.contains x <;> rfl
      · repeat walk_at "k00g"
        refine' q_asgL (ds := (ns.filter fun y => !decide (y = x)).map .int) (Ev.is (ev_lc (src := ns.map .int) (fun d => !PyData.eqv d (.int x)) id (evi_tup (by walk_at "k00f")) (by decide) (by simp; omega) (fun d hd => ?el3) fun d _ _ => by walk_at "k00f") (by rw [fe x])) fun p => ?rest3
        case el3 =>
          obtain ⟨y, _, rfl⟩ := List.mem_map.mp hd
          exact et_test (ev_neD (d := .int y) (e := .int x) (by walk_at "k00e") (by walk_at "k00e") rfl rfl rfl rfl)
        have flen : (ns.filter fun y => !decide (y = x)).length ≤ 3 := Nat.le_trans (List.length_filter_le _ _) hb.1
        refine' st_ret (Ev.is ?h ?e) k
        case h =>
          exact ev_tup (as := [.f (.tuple (ns.map .int)), .f (.bool (!decide (ns.contains x = false)))]) (eva_cons (ev_ifT (et_test (ev_eqS (ev_dat rfl) ev_str)) rfl (by walk_at "k00f"))
            (eva_cons (ev_neB (x := ns.contains x) (y := false) (ev_inI (neg := false) (ws := ns) (by walk_at "k00e") (by walk_at "k00f") (.inr (.inr rfl))) (Ev.is (ev_eqS (ev_dat rfl) ev_str) rfl)) eva_nil)) rfl (by show 2 ≤ 100000; decide)
        case e =>
          show _ = AR.f (.tuple [(Sta.seq ns).d, .bool (ns.contains x)])
          cases ns.contains x <;> rfl
    | _ => exact hs.elim
  | bank bs =>
    cases s with
    | seq ns =>
      have hln := hs.1
      have hl2 : ns.length = 2 ∨ ns.length = 3 := by rw [hln]; exact ht.1
      rcases hl with ⟨x, hx, rfl⟩ | ⟨a, b, x, ha, hb, hab, hx, rfl⟩
      · rw [← hln] at hx
        rcases two_or hl2 with ⟨u, v, rfl⟩ | ⟨u, v, y, rfl⟩
        · simp only [List.length_cons, List.length_nil] at hx
          rcases (by omega : x = 0 ∨ x = 1) with rfl | rfl
          all_goals
            repeat walk_at "k00g"
            refine' st_ret (Ev.is ?h ?e) k
            case h => walk_at "k00e"
            case e => rfl
        · simp only [List.length_cons, List.length_nil] at hx
          rcases (by omega : x = 0 ∨ x = 1 ∨ x = 2) with rfl | rfl | rfl
          all_goals
            repeat walk_at "k00g"
            refine' st_ret (Ev.is ?h ?e) k
            case h => walk_at "k00e"
            case e => rfl
      · rw [← hln] at ha hb
        by_cases hlt : ns.getD a.toNat 0 < x
        · have st : (Th.bank bs).step (.seq ns) ⟨"move", [a, b, x]⟩ = (.seq ns, .bool false) := if_pos hlt
          have kk := k.eq (D' := D) (c' := .f (.tuple [(Sta.seq ns).d, .bool false])) (by unfold Th.stepD; rw [st]) rfl
          rcases two_or hl2 with ⟨u, v, rfl⟩ | ⟨u, v, y, rfl⟩
          · simp only [List.length_cons, List.length_nil] at ha
            rcases (by omega : a = 0 ∨ a = 1) with rfl | rfl
            all_goals
              repeat walk_at "k00g"
              refine' q_guardT (b := true) (EvT.is ?g ?d) rfl (st_ret (Ev.is ?h ?e) kk)
              case g => walk_at "k00t"
              case d => exact decide_eq_true hlt
              case h => walk_at "k00e"
              case e => rfl
          · simp only [List.length_cons, List.length_nil] at ha
            rcases (by omega : a = 0 ∨ a = 1 ∨ a = 2) with rfl | rfl | rfl
            all_goals
              repeat walk_at "k00g"
              refine' q_guardT (b := true) (EvT.is ?g ?d) rfl (st_ret (Ev.is ?h ?e) kk)
              case g => walk_at "k00t"
              case d => exact decide_eq_true hlt
              case h => walk_at "k00e"
              case e => rfl
        · have st : (Th.bank bs).step (.seq ns) ⟨"move", [a, b, x]⟩ = (.seq ((ns.set a.toNat (ns.getD a.toNat 0 - x)).set b.toNat ((ns.set a.toNat (ns.getD a.toNat 0 - x)).getD b.toNat 0 + x)), .bool true) := if_neg hlt
          have kk := k.eq (D' := D) (c' := .f (.tuple [(Sta.seq ((ns.set a.toNat (ns.getD a.toNat 0 - x)).set b.toNat ((ns.set a.toNat (ns.getD a.toNat 0 - x)).getD b.toNat 0 + x))).d, .bool true])) (by unfold Th.stepD; rw [st]) rfl
          rcases two_or hl2 with ⟨u, v, rfl⟩ | ⟨u, v, y, rfl⟩
          · simp only [List.length_cons, List.length_nil] at ha hb
            rcases (by omega : (a = 0 ∧ b = 1) ∨ (a = 1 ∧ b = 0)) with ⟨rfl, rfl⟩ | ⟨rfl, rfl⟩
            · repeat walk_at "k00g"
              refine' q_guardF (b := false) (EvT.is ?g ?d) rfl (st_ret (Ev.is ?h ?e) kk)
              case g => walk_at "k00t"
              case d => exact decide_eq_false hlt
              case h =>
                refine' ev_tup (as := [_, .f (.bool true)]) (eva_cons (ev_tupOf (ev_lc1 (src := rangeR 0 2) (bankAt [u, v] 0 1 x) (evi_rng1 (by walk_at "k00f") (by decide)) (by decide) (by decide) fun d hd => ?el) (.inl rfl)) (eva_cons ev_bl eva_nil)) rfl (by show 2 ≤ 100000; decide)
                case el =>
                  rw [rangeR_iv] at hd
                  obtain ⟨i, hi, rfl⟩ := List.mem_map.mp hd
                  rw [mem_iv] at hi
                  rcases (by omega : i = 0 ∨ i = 1) with rfl | rfl
                  all_goals walk_at "k00f"
              case e =>
                simp [bankAt, rangeR, Sta.d, fzs, List.range_succ]
                try omega
            · repeat walk_at "k00g"
              refine' q_guardF (b := false) (EvT.is ?g ?d) rfl (st_ret (Ev.is ?h ?e) kk)
              case g => walk_at "k00t"
              case d => exact decide_eq_false hlt
              case h =>
                refine' ev_tup (as := [_, .f (.bool true)]) (eva_cons (ev_tupOf (ev_lc1 (src := rangeR 0 2) (bankAt [u, v] 1 0 x) (evi_rng1 (by walk_at "k00f") (by decide)) (by decide) (by decide) fun d hd => ?el) (.inl rfl)) (eva_cons ev_bl eva_nil)) rfl (by show 2 ≤ 100000; decide)
                case el =>
                  rw [rangeR_iv] at hd
                  obtain ⟨i, hi, rfl⟩ := List.mem_map.mp hd
                  rw [mem_iv] at hi
                  rcases (by omega : i = 0 ∨ i = 1) with rfl | rfl
                  all_goals walk_at "k00f"
              case e =>
                simp [bankAt, rangeR, Sta.d, fzs, List.range_succ]
                try omega
          · simp only [List.length_cons, List.length_nil] at ha hb
            rcases (by omega : (a = 0 ∧ b = 1) ∨ (a = 0 ∧ b = 2) ∨ (a = 1 ∧ b = 0) ∨ (a = 1 ∧ b = 2) ∨ (a = 2 ∧ b = 0) ∨ (a = 2 ∧ b = 1)) with ⟨rfl, rfl⟩ | ⟨rfl, rfl⟩ | ⟨rfl, rfl⟩ | ⟨rfl, rfl⟩ | ⟨rfl, rfl⟩ | ⟨rfl, rfl⟩
            · repeat walk_at "k00g"
              refine' q_guardF (b := false) (EvT.is ?g ?d) rfl (st_ret (Ev.is ?h ?e) kk)
              case g => walk_at "k00t"
              case d => exact decide_eq_false hlt
              case h =>
                refine' ev_tup (as := [_, .f (.bool true)]) (eva_cons (ev_tupOf (ev_lc1 (src := rangeR 0 3) (bankAt [u, v, y] 0 1 x) (evi_rng1 (by walk_at "k00f") (by decide)) (by decide) (by decide) fun d hd => ?el) (.inl rfl)) (eva_cons ev_bl eva_nil)) rfl (by show 2 ≤ 100000; decide)
                case el =>
                  rw [rangeR_iv] at hd
                  obtain ⟨i, hi, rfl⟩ := List.mem_map.mp hd
                  rw [mem_iv] at hi
                  rcases (by omega : i = 0 ∨ i = 1 ∨ i = 2) with rfl | rfl | rfl
                  all_goals walk_at "k00f"
              case e =>
                simp [bankAt, rangeR, Sta.d, fzs, List.range_succ]
                try omega
            · repeat walk_at "k00g"
              refine' q_guardF (b := false) (EvT.is ?g ?d) rfl (st_ret (Ev.is ?h ?e) kk)
              case g => walk_at "k00t"
              case d => exact decide_eq_false hlt
              case h =>
                refine' ev_tup (as := [_, .f (.bool true)]) (eva_cons (ev_tupOf (ev_lc1 (src := rangeR 0 3) (bankAt [u, v, y] 0 2 x) (evi_rng1 (by walk_at "k00f") (by decide)) (by decide) (by decide) fun d hd => ?el) (.inl rfl)) (eva_cons ev_bl eva_nil)) rfl (by show 2 ≤ 100000; decide)
                case el =>
                  rw [rangeR_iv] at hd
                  obtain ⟨i, hi, rfl⟩ := List.mem_map.mp hd
                  rw [mem_iv] at hi
                  rcases (by omega : i = 0 ∨ i = 1 ∨ i = 2) with rfl | rfl | rfl
                  all_goals walk_at "k00f"
              case e =>
                simp [bankAt, rangeR, Sta.d, fzs, List.range_succ]
                try omega
            · repeat walk_at "k00g"
              refine' q_guardF (b := false) (EvT.is ?g ?d) rfl (st_ret (Ev.is ?h ?e) kk)
              case g => walk_at "k00t"
              case d => exact decide_eq_false hlt
              case h =>
                refine' ev_tup (as := [_, .f (.bool true)]) (eva_cons (ev_tupOf (ev_lc1 (src := rangeR 0 3) (bankAt [u, v, y] 1 0 x) (evi_rng1 (by walk_at "k00f") (by decide)) (by decide) (by decide) fun d hd => ?el) (.inl rfl)) (eva_cons ev_bl eva_nil)) rfl (by show 2 ≤ 100000; decide)
                case el =>
                  rw [rangeR_iv] at hd
                  obtain ⟨i, hi, rfl⟩ := List.mem_map.mp hd
                  rw [mem_iv] at hi
                  rcases (by omega : i = 0 ∨ i = 1 ∨ i = 2) with rfl | rfl | rfl
                  all_goals walk_at "k00f"
              case e =>
                simp [bankAt, rangeR, Sta.d, fzs, List.range_succ]
                try omega
            · repeat walk_at "k00g"
              refine' q_guardF (b := false) (EvT.is ?g ?d) rfl (st_ret (Ev.is ?h ?e) kk)
              case g => walk_at "k00t"
              case d => exact decide_eq_false hlt
              case h =>
                refine' ev_tup (as := [_, .f (.bool true)]) (eva_cons (ev_tupOf (ev_lc1 (src := rangeR 0 3) (bankAt [u, v, y] 1 2 x) (evi_rng1 (by walk_at "k00f") (by decide)) (by decide) (by decide) fun d hd => ?el) (.inl rfl)) (eva_cons ev_bl eva_nil)) rfl (by show 2 ≤ 100000; decide)
                case el =>
                  rw [rangeR_iv] at hd
                  obtain ⟨i, hi, rfl⟩ := List.mem_map.mp hd
                  rw [mem_iv] at hi
                  rcases (by omega : i = 0 ∨ i = 1 ∨ i = 2) with rfl | rfl | rfl
                  all_goals walk_at "k00f"
              case e =>
                simp [bankAt, rangeR, Sta.d, fzs, List.range_succ]
                try omega
            · repeat walk_at "k00g"
              refine' q_guardF (b := false) (EvT.is ?g ?d) rfl (st_ret (Ev.is ?h ?e) kk)
              case g => walk_at "k00t"
              case d => exact decide_eq_false hlt
              case h =>
                refine' ev_tup (as := [_, .f (.bool true)]) (eva_cons (ev_tupOf (ev_lc1 (src := rangeR 0 3) (bankAt [u, v, y] 2 0 x) (evi_rng1 (by walk_at "k00f") (by decide)) (by decide) (by decide) fun d hd => ?el) (.inl rfl)) (eva_cons ev_bl eva_nil)) rfl (by show 2 ≤ 100000; decide)
                case el =>
                  rw [rangeR_iv] at hd
                  obtain ⟨i, hi, rfl⟩ := List.mem_map.mp hd
                  rw [mem_iv] at hi
                  rcases (by omega : i = 0 ∨ i = 1 ∨ i = 2) with rfl | rfl | rfl
                  all_goals walk_at "k00f"
              case e =>
                simp [bankAt, rangeR, Sta.d, fzs, List.range_succ]
                try omega
            · repeat walk_at "k00g"
              refine' q_guardF (b := false) (EvT.is ?g ?d) rfl (st_ret (Ev.is ?h ?e) kk)
              case g => walk_at "k00t"
              case d => exact decide_eq_false hlt
              case h =>
                refine' ev_tup (as := [_, .f (.bool true)]) (eva_cons (ev_tupOf (ev_lc1 (src := rangeR 0 3) (bankAt [u, v, y] 2 1 x) (evi_rng1 (by walk_at "k00f") (by decide)) (by decide) (by decide) fun d hd => ?el) (.inl rfl)) (eva_cons ev_bl eva_nil)) rfl (by show 2 ≤ 100000; decide)
                case el =>
                  rw [rangeR_iv] at hd
                  obtain ⟨i, hi, rfl⟩ := List.mem_map.mp hd
                  rw [mem_iv] at hi
                  rcases (by omega : i = 0 ∨ i = 1 ∨ i = 2) with rfl | rfl | rfl
                  all_goals walk_at "k00f"
              case e =>
                simp [bankAt, rangeR, Sta.d, fzs, List.range_succ]
                try omega
    | _ => exact hs.elim
end
end K00

/-! Part K. -/
set_option Elab.async false
set_option linter.all false
set_option autoImplicit false
set_option maxRecDepth 100000
set_option maxHeartbeats 4000000
/-! The law's calls. -/
namespace K00
open PySem PySem.Spec PyProof.Rows L2
local macro_rules | `(tactic| walk_at "k00a") => `(tactic| first
  | (with_reducible exact eva_nil)
  | ((with_reducible refine' eva_cons ?k1 ?k2); (case k1 => walk_at "k00e"); (case k2 => walk_at "k00a"))
  | ((with_reducible refine' eva_star ?k1 ?k2); (case k1 => walk_at "k00e"); (case k2 => walk_at "k00a")))
local macro_rules | `(tactic| walk_at "k00o") => `(tactic| first
  | (with_reducible exact evo_no)
  | ((with_reducible refine' evo_some ?k1); (case k1 => walk_at "k00e")))
local macro_rules | `(tactic| walk_at "k00e") => `(tactic| first
  | (with_reducible exact ev_int)
  | (with_reducible exact ev_str)
  | (with_reducible exact ev_bl)
  | (with_reducible exact ev_non)
  | ((with_reducible refine' ev_dat ?k1); (case k1 => rfl))
  | ((with_reducible refine' ev_own ?k1); (case k1 => rfl))
  | ((with_reducible refine' ev_argF ?k1 ?k2); (case k1 => rfl); (case k2 => rfl))
  | ((with_reducible refine' ev_arg ?k1); (case k1 => rfl))
  | ((with_reducible refine' ev_genF ?k1 ?k2); (case k1 => rfl); (case k2 => rfl))
  | ((with_reducible refine' ev_gen ?k1); (case k1 => rfl))
  | ((with_reducible refine' ev_raw ?k1); (case k1 => rfl))
  | ((with_reducible refine' ev_ixT ?k1 ?k2 ?k3); (case k1 => walk_at "k00e"); (case k2 => walk_at "k00e"); (case k3 => walk_at "k00i"))
  | ((with_reducible refine' ev_ixL ?k1 ?k2 ?k4 ?k3); (case k1 => walk_at "k00e"); (case k2 => walk_at "k00e"); (case k4 => first | exact Or.inl rfl | exact Or.inr rfl); (case k3 => walk_at "k00i"))
  | ((with_reducible refine' ev_isInt ?k1 ?k2); (case k1 => walk_at "k00e"); (case k2 => rfl))
  | ((with_reducible refine' ev_isBool ?k1 ?k2); (case k1 => walk_at "k00e"); (case k2 => rfl))
  | ((with_reducible refine' ev_isStr ?k1 ?k2); (case k1 => walk_at "k00e"); (case k2 => rfl))
  | ((with_reducible refine' ev_isTup ?k1 ?k2); (case k1 => walk_at "k00e"); (case k2 => rfl))
  | ((with_reducible refine' ev_isLst ?k1 ?k2); (case k1 => walk_at "k00e"); (case k2 => rfl))
  | ((with_reducible refine' ev_isSeq ?k1 ?k2); (case k1 => walk_at "k00e"); (case k2 => rfl))
  | ((with_reducible refine' ev_lenB ?k1 ?k2); (case k1 => walk_at "k00e"); (case k2 => first | exact Or.inl rfl | exact Or.inr rfl))
  | ((with_reducible refine' ev_int2 ?k1 ?k2); (case k1 => walk_at "k00e"); (case k2 => walk_at "k00e"))
  | ((with_reducible refine' ev_cmp2 ?k1 ?k2); (case k1 => walk_at "k00e"); (case k2 => walk_at "k00e"))
  | ((with_reducible refine' ev_intC ?k1 ?k2 ?k3); (case k1 => walk_at "k00e"); (case k2 => walk_at "k00e"); (case k3 => walk_at "k00c"))
  | ((with_reducible refine' ev_eqS ?k1 ?k2); (case k1 => walk_at "k00e"); (case k2 => walk_at "k00e"))
  | ((with_reducible refine' ev_eqI ?k1 ?k2); (case k1 => walk_at "k00e"); (case k2 => walk_at "k00e"))
  | ((with_reducible refine' ev_neI ?k1 ?k2); (case k1 => walk_at "k00e"); (case k2 => walk_at "k00e"))
  | ((with_reducible refine' ev_eqB ?k1 ?k2); (case k1 => walk_at "k00e"); (case k2 => walk_at "k00e"))
  | ((with_reducible refine' ev_neB ?k1 ?k2); (case k1 => walk_at "k00e"); (case k2 => walk_at "k00e"))
  | ((with_reducible refine' ev_eqD ?k1 ?k2 ?k3 ?k4 ?k5 ?k6); (case k1 => walk_at "k00e"); (case k2 => walk_at "k00e"); (case k3 => rfl); (case k4 => rfl); (case k5 => walk_at "k00s"); (case k6 => walk_at "k00s"))
  | ((with_reducible refine' ev_neD ?k1 ?k2 ?k3 ?k4 ?k5 ?k6); (case k1 => walk_at "k00e"); (case k2 => walk_at "k00e"); (case k3 => rfl); (case k4 => rfl); (case k5 => walk_at "k00s"); (case k6 => walk_at "k00s"))
  | ((with_reducible refine' ev_inD ?k1 ?k2 ?k3 ?k4 ?k5 ?k6); (case k1 => walk_at "k00e"); (case k2 => walk_at "k00e"); (case k3 => rfl); (case k4 => rfl); (case k5 => walk_at "k00s"); (case k6 => walk_at "k00s"))
  | ((with_reducible refine' ev_niD ?k1 ?k2 ?k3 ?k4 ?k5 ?k6); (case k1 => walk_at "k00e"); (case k2 => walk_at "k00e"); (case k3 => rfl); (case k4 => rfl); (case k5 => walk_at "k00s"); (case k6 => walk_at "k00s"))
  | ((with_reducible refine' ev_isNone ?k1 ?k2); (case k1 => walk_at "k00e"); (case k2 => rfl))
  | ((with_reducible refine' ev_notNone ?k1 ?k2); (case k1 => walk_at "k00e"); (case k2 => rfl))
  | ((with_reducible refine' ev_neg ?k1); (case k1 => walk_at "k00e"))
  | ((with_reducible refine' ev_tup ?k1 ?k2 ?k3); (case k1 => walk_at "k00a"); (case k2 => first | rfl | exact allF_app _ _); (case k3 => walk_at "k00l"))
  | ((with_reducible refine' ev_lst ?k1 ?k2 ?k3); (case k1 => walk_at "k00a"); (case k2 => first | rfl | exact allF_app _ _); (case k3 => walk_at "k00l"))
  | ((with_reducible refine' ev_slT ?k1 ?k2 ?k3); (case k1 => walk_at "k00e"); (case k2 => walk_at "k00o"); (case k3 => walk_at "k00o"))
  | ((with_reducible refine' ev_catT ?k1 ?k2 ?k3); (case k1 => walk_at "k00e"); (case k2 => walk_at "k00e"); (case k3 => walk_at "k00l"))
  | ((with_reducible refine' ev_cat ?k1 ?k2 ?k4 ?k5 ?k3); (case k1 => walk_at "k00e"); (case k2 => walk_at "k00e"); (case k4 => first | exact Or.inl rfl | exact Or.inr rfl); (case k5 => first | exact Or.inl rfl | exact Or.inr rfl); (case k3 => walk_at "k00l"))
  | ((with_reducible refine' ev_tupOf ?k1 ?k2); (case k1 => walk_at "k00e"); (case k2 => first | exact Or.inl rfl | exact Or.inr rfl))
  | ((with_reducible refine' ev_lstOf ?k1); (case k1 => walk_at "k00e"))
  | ((with_reducible refine' ev_intI ?k1); (case k1 => walk_at "k00e"))
  | ((with_reducible refine' ev_intB ?k1); (case k1 => walk_at "k00e"))
  | ((with_reducible refine' ev_and0 ?k1 ?k2); (case k1 => walk_at "k00e"); (case k2 => first | rfl | assumption))
  | ((with_reducible refine' ev_or1 ?k1 ?k2); (case k1 => walk_at "k00e"); (case k2 => first | rfl | assumption))
  | ((with_reducible refine' ev_ifT ?k1 ?k2 ?k3); (case k1 => walk_at "k00t"); (case k2 => first | rfl | assumption); (case k3 => walk_at "k00e"))
  | ((with_reducible refine' ev_ifF ?k1 ?k2 ?k3); (case k1 => walk_at "k00t"); (case k2 => first | rfl | assumption); (case k3 => walk_at "k00e"))
  | ((with_reducible refine' ev_andV ?k1 ?k2); (case k1 => walk_at "k00e"); (case k2 => intro hb; walk_at "k00e"))
  | ((with_reducible refine' ev_orV ?k1 ?k2); (case k1 => walk_at "k00e"); (case k2 => intro hb; walk_at "k00e"))
  | ((with_reducible refine' ev_notV ?k1); (case k1 => walk_at "k00e"))
  | ((with_reducible refine' ev_chain ?k1 ?k2 ?k3); (case k1 => walk_at "k00e"); (case k2 => walk_at "k00e"); (case k3 => walk_at "k00e"))
  | ((with_reducible refine' ev_inT ?k1 ?k2 ?k3 ?k4); (case k1 => walk_at "k00e"); (case k2 => walk_at "k00e"); (case k3 => walk_at "k00w"); (case k4 => rfl))
  | ((with_reducible refine' ev_inN ?k1 ?k2 ?k3 ?k4); (case k1 => walk_at "k00e"); (case k2 => walk_at "k00e"); (case k3 => walk_at "k00w"); (case k4 => rfl))
  | ((with_reducible refine' ev_inI ?k1 ?k2 ?k3); (case k1 => walk_at "k00e"); (case k2 => walk_at "k00e"); (case k3 => exact Or.inr (Or.inr rfl)))
  | ((with_reducible refine' ev_lcW ?k1 ?k2 ?k3 ?k4); (case k1 => walk_at "k00n"); (case k2 => decide); (case k3 => walk_at "k00x"); (case k4 => first | decide | exact of_decide_eq_true rfl))
  | walk_at "k00r"
  | (with_reducible exact ev_c))
local macro_rules | `(tactic| walk_at "k00k") => `(tactic| first
  | exact Coes.nil
  | ((refine' Coes.cons ?k1 ?k2); (case k1 => first | exact coe_rfl | exact coe_b rfl); (case k2 => walk_at "k00k")))
local macro_rules | `(tactic| walk_at "k00i") => `(tactic| first | rfl | assumption)
local macro_rules | `(tactic| walk_at "k00c") => `(tactic| first | trivial | decide | omega | assumption | exact Or.inl ⟨by omega, by omega⟩)
local macro_rules | `(tactic| walk_at "k00l") => `(tactic| first | decide | (simp; done) | (simp; omega) | omega | assumption | (simp [rangeR_len2, fzs]; done) | (simp [rangeR_len2, fzs]; omega))
local macro_rules | `(tactic| walk_at "k00s") => `(tactic| first | rfl | decide +kernel | assumption | exact Sh.shaped (by assumption))
local macro_rules | `(tactic| walk_at "k00t") => `(tactic| first
  | ((with_reducible refine' et_test ?k1); (case k1 => walk_at "k00e"))
  | ((with_reducible refine' et_B ?k1); (case k1 => walk_at "k00e"))
  | ((with_reducible refine' et_not ?k1); (case k1 => walk_at "k00t"))
  | ((with_reducible refine' et_and0 ?k1 ?k2); (case k1 => walk_at "k00t"); (case k2 => first | rfl | assumption))
  | ((with_reducible refine' et_or1 ?k1 ?k2); (case k1 => walk_at "k00t"); (case k2 => first | rfl | assumption))
  | ((with_reducible refine' et_and ?k1 ?k2); (case k1 => walk_at "k00t"); (case k2 => intro hb; walk_at "k00t"))
  | ((with_reducible refine' et_or ?k1 ?k2); (case k1 => walk_at "k00t"); (case k2 => intro hb; walk_at "k00t"))
  | (with_reducible exact et_yes))

local macro_rules | `(tactic| walk_at "k00n") => `(tactic| first
  | ((with_reducible refine' evi_rng1 ?k1 ?k2); (case k1 => walk_at "k00e"); (case k2 => walk_at "k00y"))
  | ((with_reducible refine' evi_rng2 ?k1 ?k2 ?k3); (case k1 => walk_at "k00e"); (case k2 => walk_at "k00e"); (case k3 => walk_at "k00y"))
  | ((with_reducible refine' evi_tup ?k1); (case k1 => walk_at "k00e"))
  | ((with_reducible refine' evi_lst ?k1 ?k2); (case k1 => walk_at "k00e"); (case k2 => first | exact Or.inl rfl | exact Or.inr rfl)))
local macro_rules | `(tactic| walk_at "k00y") => `(tactic| first | decide | omega | (simp; omega) | assumption)
local macro_rules | `(tactic| walk_at "k00x") => `(tactic| first | decide | assumption | (rw [rangeR_iv, List.length_map]; unfold iv; rw [List.length_map, List.length_range]; omega))
local macro_rules | `(tactic| walk_at "k00w") => `(tactic| first | exact Or.inr (Or.inr rfl) | exact Or.inl rfl | exact Or.inr (Or.inl rfl))
local macro_rules | `(tactic| walk_at "k00b") => `(tactic| first | decide +kernel | rfl | assumption | (simp; done))
local macro_rules | `(tactic| walk_at "k00g") => `(tactic| first
  | ((with_reducible refine' q_asgF ?k1 ?k2); (case k1 => walk_at "k00e"))
  | ((with_reducible refine' q_guardF ?k1 ?k2 ?k3); (case k1 => walk_at "k00t"); (case k2 => walk_at "k00b"))
  | ((with_reducible refine' q_guardT ?k1 ?k2 ?k3); (case k1 => walk_at "k00t"); (case k2 => walk_at "k00b"))
  | ((with_reducible refine' q_two ?k1 ?k2); (case k1 => walk_at "k00e"))
  | ((with_reducible refine' q_par ?k1 ?k2); (case k1 => walk_at "k00a"))
  | ((with_reducible refine' q_par3 ?k1 ?k2); (case k1 => walk_at "k00a")))
local macro_rules | `(tactic| walk_at "k00f") => `(tactic| ((refine' Ev.is ?k1 ?k2); (case k1 => walk_at "k00e"); (case k2 => rfl)))
local macro_rules | `(tactic| walk_at "k00r") => `(tactic| first
  | ((with_reducible refine' ev_small ?k1 ?k2); (case k1 => walk_at "k00a"); (case k2 => rfl))
  | ((with_reducible refine' ev_bank ?k1); (case k1 => walk_at "k00a"))
  | ((with_reducible refine' ev_table ?k1); (case k1 => walk_at "k00a")))
/-! tables of words -/
inductive Prs (Hs H : Hp) : List (Key × V) → List (Str × List PyData) → Prop
  | nil : Prs Hs H [] []
  | cons {q : Addr} {xs : List V} {ds : List PyData} {k : Str} {kvs : List (Key × V)} {l : List (Str × List PyData)} (h0 : Hs q = none) (h : H q = some (.lst xs)) (f : FzAll H xs ds) (t : Prs Hs H kvs l) : Prs Hs H ((.inr k, .ref q) :: kvs) ((k, ds) :: l)
theorem Prs.same {Hs H H' : Hp} (e : Same H H') : ∀ {kvs : List (Key × V)} {l : List (Str × List PyData)}, Prs Hs H kvs l → Prs Hs H' kvs l
  | _, _, .nil => .nil
  | _, _, .cons h0 h f t => .cons h0 (e _ _ h) (f.same e) (Prs.same e t)
theorem Prs.keys {Hs H : Hp} : ∀ {kvs : List (Key × V)} {l : List (Str × List PyData)}, Prs Hs H kvs l → kvs.map (·.1) = l.map fun p => (.inr p.1 : Key)
  | _, _, .nil => rfl
  | _, _, .cons _ _ _ t => by simp [Prs.keys t]
theorem Prs.len {Hs H : Hp} : ∀ {kvs : List (Key × V)} {l : List (Str × List PyData)}, Prs Hs H kvs l → kvs.length = l.length
  | _, _, .nil => rfl
  | _, _, .cons _ _ _ t => by simp [Prs.len t]
theorem Prs.val {Hs H : Hp} : ∀ {kvs : List (Key × V)} {l : List (Str × List PyData)} {k : Str} {ds : List PyData}, Prs Hs H kvs l → l.lookup k = some ds → ∃ q xs, valV kvs (.inr k) = some (.ref q) ∧ Hs q = none ∧ H q = some (.lst xs) ∧ FzAll H xs ds
  | _, _, _, _, .nil, e => by simp at e
  | _, _, k, ds, .cons (k := k') h0 h f t, e => by
    rw [List.lookup_cons] at e
    by_cases hk : k = k'
    · subst hk
      rw [beq_self_eq_true] at e
      cases e
      exact ⟨_, _, valV_pos rfl, h0, h, f⟩
    · rw [beq_eq_false_iff_ne.mpr hk] at e
      obtain ⟨q, xs, a, b⟩ := Prs.val t e
      exact ⟨q, xs, by rw [valV_neg (fun z => hk (Sum.inr.inj z).symm)]; exact a, b⟩
theorem Prs.no {Hs H : Hp} : ∀ {kvs : List (Key × V)} {l : List (Str × List PyData)} {k : Str}, Prs Hs H kvs l → l.lookup k = none → valV kvs (.inr k) = none
  | _, _, _, .nil, e => rfl
  | _, _, k, .cons (k := k') h0 h f t, e => by
    rw [List.lookup_cons] at e
    by_cases hk : k = k'
    · subst hk
      rw [beq_self_eq_true] at e
      cases e
    · rw [beq_eq_false_iff_ne.mpr hk] at e
      rw [valV_neg (fun z => hk (Sum.inr.inj z).symm)]
      exact Prs.no t e
theorem merge_app : ∀ (more acc : List (Key × V)), ((acc ++ more).map (·.1)).Nodup → mergeK acc more = acc ++ more
  | [], acc, _ => by simp [mergeK]
  | kv :: more, acc, h => by
    have hn : (acc.any fun p => decide (p.1 = kv.1)) = false := by
      rw [List.any_eq_false]
      intro p hp z
      have z : p.1 = kv.1 := of_decide_eq_true z
      rw [List.map_append, List.map_cons, List.nodup_append] at h
      exact h.2.2 p.1 (List.mem_map.mpr ⟨p, hp, rfl⟩) kv.1 List.mem_cons_self z
    have e : putK acc kv.1 kv.2 = acc ++ [kv] := by
      unfold putK
      rw [if_neg (by rw [hn]; decide)]
    show mergeK (putK acc kv.1 kv.2) more = _
    rw [e, merge_app more (acc ++ [kv]) (by rw [List.append_assoc]; exact h), List.append_assoc]
    rfl
inductive EvPs (H0 : Hp) (E : List AV) : List (TE × TE) → List (Str × List PyData) → Prop
  | nil : EvPs H0 E [] []
  | cons {te : TE} {k : Str} {ds : List PyData} {trs : List (TE × TE)} {l : List (Str × List PyData)} (h : Ev W0 H0 te E (.l ds)) (t : EvPs H0 E trs l) : EvPs H0 E ((tC (.str k), te) :: trs) ((k, ds) :: l)
theorem same_tr {A B C : Hp} (a : Same A B) (b : Same B C) : Same A C := fun x o h => b x o (a x o h)
theorem ev_pairs {H0 Hs : Hp} {E : List AV} : ∀ {trs : List (TE × TE)} {l : List (Str × List PyData)}, EvPs H0 E trs l → ∀ {σ : L2.St} {H : Hp}, Sat W0 H0 E σ H → Same Hs H → ∀ {Q : List (V × V) → Hp → Prop}, (∀ kvs H', Same H H' → Prs Hs H' kvs l → Q (kvs.map fun kv => (kV kv.1, kv.2)) H') → tPairs trs σ H Q
  | _, _, .nil, σ, H, S, e, Q, k => k [] H (fun _ _ h => h) .nil
  | _, _, .cons (k := w) h t, σ, H, S, e, Q, k => by
    refine h σ H S _ fun v H1 n1 q => ?_
    obtain ⟨p, xs, rfl, hn, hp, tt⟩ := q
    refine ev_pairs t (S.next n1) (same_tr e n1.3) fun kvs H' e2 pr => ?_
    exact k ((.inr w, .ref p) :: kvs) H' (same_tr n1.3 e2) (.cons (W0.frb (Kp.of_same e) e hn) (e2 _ _ hp) (tt.same e2) pr)
theorem Prs.updK {Hs H : Hp} {p : Addr} {k0 : List (Key × V)} {o : HO} (hp : H p = some (.dK k0)) : ∀ {kvs : List (Key × V)} {l : List (Str × List PyData)}, Prs Hs H kvs l → Prs Hs (upd H p o) kvs l
  | _, _, .nil => .nil
  | _, _, .cons h0 h f t => .cons h0 (by rw [upd_ne (ne_of h hp (by intro y; cases y))]; exact h) (FzAll.keep (fun a zs z => by
      rw [upd_ne (ne_of z hp (by intro y; cases y))]
      exact z) _ _ f) (Prs.updK hp t)
theorem ev_disp {H0 : Hp} {E : List AV} {trs : List (TE × TE)} {l : List (Str × List PyData)} (h : EvPs H0 E trs l) (nd : (l.map fun p => (Sum.inr p.1 : Key)).Nodup) (hl : l.length ≤ 15) {σ : L2.St} {H : Hp} (S : Sat W0 H0 E σ H) {Q : VK}
    (k : ∀ p kvs H', Same H H' → H' p = some (.dK kvs) → Prs H H' kvs l → Q (.ref p) H') : tDisp trs σ H Q := fun p hp =>
  ev_pairs h (S.next (.new trivial hp _)) (same_new hp _) fun kvs H' e pr => by
    have hk : H' p = some (.dK []) := e p _ upd_same
    have em : mergeK [] kvs = kvs := merge_app kvs [] (by
      rw [List.nil_append, pr.keys]
      exact nd)
    refine ⟨hk, kvs, rfl, by rw [pr.len]; exact hl, k p kvs _ (upd_sm hp (same_tr (same_new hp _) e)) ?_ (pr.updK hk)⟩
    rw [upd_same, em]
theorem ev_words {H0 : Hp} {E : List AV} {trs : List (TE × TE)} {ty : TE} {l : List (Str × List PyData)} {x : Str} {ds : List PyData} (h : EvPs H0 E trs l) (nd : (l.map fun p => (Sum.inr p.1 : Key)).Nodup) (hl : l.length ≤ 15) (hy : Ev W0 H0 ty E (.f (.str x))) (hx : l.lookup x = some ds) :
    Ev W0 H0 (tDGet (tDisp trs) ty) E (.l ds) := fun σ H S Q k => ev_disp h nd hl S fun p kvs H1 e hpk pr => hy.late (S.next (.of_same trivial e)) fun y H2 n2 qy => by
  cases qy
  obtain ⟨q, xs, hv, h0, hq, f⟩ := pr.val hx
  refine ⟨p, .ref q, rfl, ?_, k _ H2 ((Nx.of_same trivial e).trans n2) ⟨q, xs, rfl, h0, n2.3 _ _ hq, f.same n2.3⟩⟩
  rw [← hv]
  exact DGet.k (k := .inr x) (n2.3 _ _ hpk)
def relCallsL (as : List AR) (c : AR) : Prop := ∃ t : Th, t.ok ∧ as = [.f t.d] ∧ c = .l (t.calls.map Cal.d)
theorem ev_callsL {W : Wd} {H0 : Hp} {ta : TA} {E : List AV} {Ex : XK} {t : Th} (h : EvA W H0 ta E [.f t.d]) (ht : t.ok) : Ev W H0 (tCall (Pr relCallsL) [] Ex ta) E (.l (t.calls.map Cal.d)) := ev_call h (.cons coe_rfl .nil) ⟨t, ht, rfl, rfl⟩ trivial
/-! lists read again -/
def nl2 : PyData → Bool
  | .tuple ds => ds.all flatD
  | d => flatD d
theorem DqAll.flat {R : Addr → Prop} {H : Hp} : ∀ {vs : List V} {ds : List PyData}, DqAll R H vs ds → ds.all flatD = true → FzAll H vs ds
  | _, _, .nil, _ => .nil
  | _, _, .cons h t, e => by
    rw [List.all_cons, Bool.and_eq_true] at e
    exact .cons (h.flat e.1) (DqAll.flat t e.2)
theorem Dq.nl2 {R : Addr → Prop} {H : Hp} {v : V} {d : PyData} (h : Dq R H v d) (e : nl2 d = true) : Fz H v d := by
  cases h with
  | non => exact .non
  | bl b => exact .bl b
  | int i => exact .int i
  | str x => exact .str x
  | tup h t => exact .tup h (t.flat e)
  | lst h n t => cases e
theorem DqAll.nl2 {R : Addr → Prop} {H : Hp} : ∀ {vs : List V} {ds : List PyData}, DqAll R H vs ds → ds.all nl2 = true → FzAll H vs ds
  | _, _, .nil, _ => .nil
  | _, _, .cons h t, e => by
    rw [List.all_cons, Bool.and_eq_true] at e
    exact .cons (h.nl2 e.1) (DqAll.nl2 t e.2)
theorem ev_genL {W : Wd} {H0 : Hp} {E : List AV} {ds : List PyData} {i : Nat} (h : E[i]? = some (.gen (.list ds))) (e : ds.all nl2 = true) : Ev W H0 (tVar i) E (.g ds) := fun σ H S Q k => by
  obtain ⟨o, e1, v, e2, q⟩ := S.slot h
  cases q with
  | lst hp n t => exact ⟨_, by rw [e1, e2], k _ H (.refl S.j) ⟨_, _, rfl, hp, n, t.nl2 e⟩⟩
theorem cals_nl (l : List Cal) : (l.map Cal.d).all nl2 = true := by
  rw [List.all_eq_true]
  intro d hd
  obtain ⟨c, _, rfl⟩ := List.mem_map.mp hd
  show (PyData.str c.w :: c.ns.map .int).all flatD = true
  rw [List.all_eq_true]
  intro x hx
  rcases List.mem_cons.mp hx with rfl | hx
  · rfl
  · obtain ⟨n, _, rfl⟩ := List.mem_map.mp hx
    rfl
theorem stas_nl (l : List Sta) : (l.map Sta.d).all nl2 = true := by
  rw [List.all_eq_true]
  intro d hd
  obtain ⟨s, _, rfl⟩ := List.mem_map.mp hd
  cases s with
  | non => rfl
  | num k => rfl
  | seq ns =>
    show (ns.map PyData.int).all flatD = true
    rw [List.all_eq_true]
    intro x hx
    obtain ⟨n, _, rfl⟩ := List.mem_map.mp hx
    rfl
def wordsL : List (Str × List PyData) := [("counter", [.str "add"]), ("register", [.str "put", .str "trade"]), ("stack", [.str "push"]), ("queue", [.str "enter"]), ("set", [.str "add", .str "drop", .str "has"]), ("agree", [.str "decide"])]
def moreL : List (Str × List PyData) := [("counter", [.tuple [.str "look"]]), ("register", [.tuple [.str "look"]]), ("stack", [.tuple [.str "pop"]]), ("queue", [.tuple [.str "leave"]])]
/-- the calls of the words ws -/
def wordC (lo hi : Int) (ws : List Str) : List Cal := ws.flatMap fun w => (iv lo hi).map fun k => ⟨w, [k]⟩
section
variable {P : Program} {w : World} {K : PySem.W.Frag} {mg : Str → Option Value} {base : Heap} {f : Addr} {fd : FuncData}
theorem sc__law_calls : FnScope ["_law_thing", "_law_name", "_law_words", "_law_word", "_law_more", "_law_found", "_law_one", "_law_low", "_law_high", "_law_other", "_law_k"] ["_law_thing"] (defScope (stm 41)) := ⟨rfl, rfl, rfl, by decide +kernel, rfl, by decide +kernel, by decide +kernel⟩
theorem flatMap_snoc {α β : Type} {g : α → List β} {l : List α} {n : Nat} {a : α} (h : l[n]? = some a) : (l.take (n + 1)).flatMap g = (l.take n).flatMap g ++ g a := by
  rw [take_snoc h, List.flatMap_append, List.flatMap_cons, List.flatMap_nil, List.append_nil]
/-- the words' part of the calls; then what more there is -/
theorem words_go {H : Hp} {D : Ends} {nm : Str} {ws : List Str} {more : List Cal} {cs : List Cal} {lo hi : Int} {d0 : PyData} {trs : List (TE × TE)} (hrg : 0 ≤ lo ∧ hi ≤ 100 ∧ lo ≤ 100 ∧ 0 ≤ hi) (hw : ws.length ≤ 3) (k : Ret W0 H D (.l (cs.map Cal.d))) (so : SortOk ((wordC lo hi ws ++ more).map Cal.d) (cs.map Cal.d)) (p q : Addr)
    (hm : moreL.lookup nm = some (more.map Cal.d) ∨ (moreL.lookup nm = none ∧ more = []))
    (htr : ∀ p' ds, EvPs H [.dat d0, .dat (.str nm), .own q (ws.map .str), .no, .no, .own p' ds, .no, .dat (.int lo), .dat (.int hi), .no, .no] trs moreL) :
    Go W0 H (tSeq (tFor (iList K (tVar 2)) (gName 3) (tAsg (tOp rCat (tVar 5) (tLc (iRng2 (tCons (tVar 7) (tCons (tVar 8) tNil))) (gName 10) tYes (tTup (tCons (tVar 3) (tCons (tVar 10) tNil))) [10])) (gName 5)))
      (tSeq (tAsg (tDisp trs) (gName 4)) (tRet (tCB (rSortZ K) (tCons (tOp rCat (tVar 5) (tDGet2 (tVar 4) (tVar 1) (tLst tNil))) tNil))))) D
      [.dat d0, .dat (.str nm), .own q (ws.map .str), .no, .no, .own p [], .no, .dat (.int lo), .dat (.int hi), .no, .no] := by
  have wl : ∀ us : List Str, (wordC lo hi us).length = us.length * (hi - lo).toNat := fun us => by
    induction us with
    | nil => simp [wordC]
    | cons u us ih =>
      have e : wordC lo hi (u :: us) = ((iv lo hi).map fun k => (⟨u, [k]⟩ : Cal)) ++ wordC lo hi us := rfl
      rw [e, List.length_append, ih, List.length_map]
      unfold iv
      rw [List.length_map, List.length_range, List.length_cons, Nat.succ_mul, Nat.add_comm]
  have wl2 : ∀ us : List Str, us.length ≤ 3 → (wordC lo hi us).length ≤ 300 := fun us h => by
    rw [wl]
    exact Nat.le_trans (Nat.mul_le_mul h (by omega : (hi - lo).toNat ≤ 100)) (by decide)
  have ml : more.length ≤ 1 := by
    rcases hm with h | ⟨_, rfl⟩
    · have : (more.map Cal.d).length ≤ 1 := by
        generalize more.map Cal.d = ds at h
        unfold moreL at h
        simp only [List.lookup_cons, List.lookup_nil] at h
        split at h
        · cases h; decide
        · split at h
          · cases h; decide
          · split at h
            · cases h; decide
            · split at h
              · cases h; decide
              · cases h
      rwa [List.length_map] at this
    · simp
  refine q_forOwn (ds := ws.map .str) (p := q) (fun n E' => ∃ p', E' = [.dat d0, .dat (.str nm), .own q (ws.map .str), .no, .no, .own p' ((wordC lo hi (ws.take n)).map Cal.d), .no, .dat (.int lo), .dat (.int hi), .no, .no]) (fun n E' z => by obtain ⟨_, rfl⟩ := z; rfl) ⟨p, rfl⟩ (fun n d E' hd z => ?_) fun E' z => ?_
  · obtain ⟨p', rfl⟩ := z
    obtain ⟨w1, hw1, rfl⟩ : ∃ w1, ws[n]? = some w1 ∧ d = .str w1 := by
      rw [List.getElem?_map] at hd
      obtain ⟨c, e1, e2⟩ := Option.map_eq_some_iff.mp hd
      exact ⟨c, e1, e2.symm⟩
    have tl : (ws.take n).length ≤ 3 := by rw [List.length_take]; omega
    have e : (wordC lo hi (ws.take (n + 1))).map Cal.d = (wordC lo hi (ws.take n)).map Cal.d ++ (rangeR lo hi).map fun d => .tuple [.str w1, d] := by
      unfold wordC
      rw [flatMap_snoc hw1, List.map_append, List.map_map, rangeR_iv, List.map_map]
      rfl
    refine st_asgL (ev_cat (es := (rangeR lo hi).map fun d => .tuple [.str w1, d]) (ev_own rfl) (ev_lcV (w := w1) rfl (by decide) (evi_rng2 (ev_dat rfl) (ev_dat rfl) (by omega)) (by decide) (by rw [rangeR_len2]; omega) (of_decide_eq_true rfl)) (.inr rfl) (.inl rfl) (by rw [List.length_map, List.length_map, rangeR_len2]; have := wl2 _ tl; omega)) fun p'' σ H1 S => ⟨_, ⟨p'', rfl⟩, ?_⟩
    rw [e]
    exact S.wk (.same (.same (.same (.no (.same (.same (.same (.same (.same (.same (.same .nil)))))))))))
  · obtain ⟨p', rfl⟩ := z
    rw [List.length_map, List.take_length]
    intro σ H1 S
    show tDisp trs σ H1 (fun x H2 => tRet (tCB (rSortZ K) (tCons (tOp rCat (tVar 5) (tDGet2 (tVar 4) (tVar 1) (tLst tNil))) tNil)) D (σ.set 4 (some x)) H2)
    refine ev_disp (htr p' _) (by decide +kernel) (by decide) S fun pd kvs H2 e hpk pr => ?_
    have S2 : Sat W0 H ([.dat d0, .dat (.str nm), .own q (ws.map .str), .no, .raw (.ref pd), .own p' ((wordC lo hi ws).map Cal.d), .no, .dat (.int lo), .dat (.int hi), .no, .no]) (σ.set 4 (some (.ref pd))) H2 := (S.next (.of_same trivial e)).set (i := 4) (a := .raw (.ref pd)) rfl fun _ _ z => by cases z
    have S3 : Sat W0 H2 [.dat d0, .dat (.str nm), .gen (.list (ws.map .str)), .no, .raw (.ref pd), .gen (.list ((wordC lo hi ws).map Cal.d)), .no, .dat (.int lo), .dat (.int hi), .no, .no] (σ.set 4 (some (.ref pd))) H2 := (S2.wk (.same (.same (.ownG (.same (.same (.ownG Wk.rfl))))))).move rfl (.refl trivial) trivial
    have ed : Ev W0 H2 (tDGet2 (tVar 4) (tVar 1) (tLst tNil)) [.dat d0, .dat (.str nm), .gen (.list (ws.map .str)), .no, .raw (.ref pd), .gen (.list ((wordC lo hi ws).map Cal.d)), .no, .dat (.int lo), .dat (.int hi), .no, .no] (.g (more.map Cal.d)) := fun σ H3 S Q k => by
      refine (ev_raw rfl) σ H3 S _ fun v H4 n4 qv => ?_
      cases qv
      have k4 : H4 pd = some (.dK kvs) := n4.3 _ _ (S.nx.3 _ _ hpk)
      refine ⟨pd, rfl, .inl ⟨kvs, .of k4⟩, (ev_dat rfl) σ H4 (S.next n4) _ fun y H5 n5 qy => ?_⟩
      cases qy
      refine (ev_lst eva_nil rfl (by decide)) σ H5 ((S.next n4).next n5) _ fun z H6 n6 qz => ?_
      have nx := (n4.trans n5).trans n6
      have k6 : H6 pd = some (.dK kvs) := n6.3 _ _ (n5.3 _ _ k4)
      refine ⟨valV kvs (.inr nm), DGet.k (k := .inr nm) k6, ?_⟩
      rcases hm with h | ⟨h, rfl⟩
      · obtain ⟨q', xs, hv, _, hq, f⟩ := pr.val h
        rw [hv]
        have e6 : Same H2 H6 := same_tr S.nx.3 nx.3
        exact k _ H6 nx ⟨q', xs, rfl, e6 _ _ hq, fun z => z, f.same e6⟩
      · rw [pr.no h]
        obtain ⟨q', xs, e1, _, hq, f⟩ := qz
        exact k _ H6 nx ⟨q', xs, e1, hq, fun z => z, f⟩
    have fin := ev_sort (K := K) (ds := (wordC lo hi ws ++ more).map Cal.d) (a := .l ((wordC lo hi ws ++ more).map Cal.d)) (Ev.is (ev_cat (ds := (wordC lo hi ws).map Cal.d) (es := more.map Cal.d) (ev_genL (i := 5) rfl (cals_nl _)) ed (.inr rfl) (.inr rfl) (by rw [List.length_map, List.length_map]; have := wl2 ws hw; omega)) (by rw [List.map_append])) (.inl rfl) so.alike so.sortable so.len so.dep
    rw [so.eq] at fin
    exact fin _ H2 S3 _ fun v H' n r => k v H' (S2.nx.trans n) (r.back S2.nx)
theorem st_parFFL {W : Wd} {H0 : Hp} {E : List AV} {D : Ends} {ta tb tc : TE} {d e : PyData} {es : List PyData} {i j l : Nat} (h1 : Ev W H0 ta E (.f d)) (h2 : Ev W H0 tb E (.f e)) (h3 : Ev W H0 tc E (.l es)) (k : ∀ q σ H, Sat W H0 (((E.set i (.dat d)).set j (.dat e)).set l (.own q es)) σ H → D.nx σ H) :
    Go W H0 (tPar3 i j l (tCons ta (tCons tb (tCons tc tNil)))) D E := fun σ H S => h1 σ H S _ fun u H1 n1 q1 => h2 σ H1 (S.next n1) _ fun v H2 n2 q2 => h3 σ H2 ((S.next n1).next n2) _ fun w H3 n3 q3 => by
  obtain ⟨q, ys, rfl, hn3, hp3, t3⟩ := q3
  have S1 : Sat W H0 (E.set i (.dat d)) (σ.set i (some u)) H1 := (S.next n1).dat q1
  exact ⟨_, _, _, rfl, k q _ H3 (((S1.next n2).dat q2).setOwn n3 hn3 hp3 t3)⟩
theorem q_parFFL {W : Wd} {H0 : Hp} {E : List AV} {D : Ends} {tz : TS} {ta tb tc : TE} {d e : PyData} {es : List PyData} {i j l : Nat} (h1 : Ev W H0 ta E (.f d)) (h2 : Ev W H0 tb E (.f e)) (h3 : Ev W H0 tc E (.l es)) (k : ∀ q, Go W H0 tz D (((E.set i (.dat d)).set j (.dat e)).set l (.own q es))) :
    Go W H0 (tSeq (tPar3 i j l (tCons ta (tCons tb (tCons tc tNil)))) tz) D E := go_seq (st_parFFL h1 h2 h3 k)
theorem ok__law_calls (F : FnP K "_law_calls" 41 f fd) (B : Bt mg) : FnOk P w K mg base CX0 1 f fd ["_law_thing"] (Pr relCallsL) := by
  refine F.ok sc__law_calls (fun vs H Q E h => pr_len (fun as c r => by obtain ⟨t, _, rfl, _⟩ := r; rfl) h) (fun cdv A outer s H vs Q E hr h => ⟨_, PSs.nox (pss_cons (ps_set (i := 1) sc__law_calls.nd rfl (Or.inl rfl) (pe_ix ix_tup (pv 0) pe_int (fun _ _ => rfl)))
      (pss_cons (ps_if (pt_cmpR op_eq (pv 1) pe_str (nomark _)) (pss_cons (ps_setLc (i := 5) (own := [("_law_k", 10)]) (g := gName 10) rfl sc__law_calls.nd rfl rfl (sw_true rfl rfl rfl (by decide +kernel)) (pi_range1 (by rfl) B.range (pa_cons (k_len B.len rfl (pa_cons (pe_ix ix_tup (pv 0) pe_int (fun _ _ => rfl)) pa_nil)) pa_nil)) (blkOk_by (own := [("_law_k", 10)]) (N := ["_law_thing", "_law_name", "_law_words", "_law_word", "_law_more", "_law_found", "_law_one", "_law_low", "_law_high", "_law_other", "_law_k"]) (sc := defScope (stm 41)) (by decide +kernel)) (fun _ _ _ _ _ => pg_name (i := 10) sc__law_calls.nd rfl (Or.inl rfl)) (fun _ _ _ _ _ => pts_nil) (fun _ _ _ _ _ => (pe_tup (pa_cons pe_str (pa_cons (pv 10) pa_nil)))))
      (pss_cons (ps_for PassesOwn.never rfl (pi_range1 (by rfl) B.range (pa_cons (k_len B.len rfl (pa_cons (pe_ix ix_tup (pv 0) pe_int (fun _ _ => rfl)) pa_nil)) pa_nil)) (pg_name (i := 6) sc__law_calls.nd rfl (Or.inr rfl)) (pss_one (ps_for PassesOwn.never rfl (pi_range1 (by rfl) B.range (pa_cons (k_len B.len rfl (pa_cons (pe_ix ix_tup (pv 0) pe_int (fun _ _ => rfl)) pa_nil)) pa_nil)) (pg_name (i := 9) sc__law_calls.nd rfl (Or.inr rfl)) (pss_one (ps_if (pt_cmpR op_ne (pv 6) (pv 9) (nomark _)) (pss_one (ps_set (i := 5) sc__law_calls.nd rfl (Or.inl rfl) (pe_op op_cat (pv 5) (pe_lc (own := [("_law_k", 10)]) (g := gName 10) rfl sc__law_calls.nd (pi_list (pe_lst (pa_cons pe_int (pa_cons pe_int (pa_cons pe_int pa_nil))))) (blkOk_by (own := [("_law_k", 10)]) (N := ["_law_thing", "_law_name", "_law_words", "_law_word", "_law_more", "_law_found", "_law_one", "_law_low", "_law_high", "_law_other", "_law_k"]) (sc := defScope (stm 41)) (by decide +kernel)) (fun _ _ _ _ _ => pg_name (i := 10) sc__law_calls.nd rfl (Or.inl rfl)) (fun _ _ _ _ _ => pts_nil) (fun _ _ _ _ _ => (pe_tup (pa_cons pe_str (pa_cons (pv 6) (pa_cons (pv 9) (pa_cons (pv 10) pa_nil)))))))))) pss_nil)))))
      (pss_one (ps_ret (k_sorted hr B.sorted rfl (pa_cons (pv 5) pa_nil)))))) pss_nil)
      (pss_cons (ps_if (pt_cmpR op_eq (pv 1) pe_str (nomark _)) (pss_one (ps_ret (pe_lc (own := [("_law_k", 10)]) (g := gName 10) rfl sc__law_calls.nd (pi_range1 (by rfl) B.range (pa_cons (k_len B.len rfl (pa_cons (pe_ix ix_tup (pe_ix ix_tup (pv 0) pe_int (fun _ _ => rfl)) pe_int (fun _ _ => rfl)) pa_nil)) pa_nil)) (blkOk_by (own := [("_law_k", 10)]) (N := ["_law_thing", "_law_name", "_law_words", "_law_word", "_law_more", "_law_found", "_law_one", "_law_low", "_law_high", "_law_other", "_law_k"]) (sc := defScope (stm 41)) (by decide +kernel)) (fun _ _ _ _ _ => pg_name (i := 10) sc__law_calls.nd rfl (Or.inl rfl)) (fun _ _ _ _ _ => pts_nil) (fun _ _ _ _ _ => (pe_tup (pa_cons pe_str (pa_cons (pv 10) pa_nil))))))) pss_nil)
      (pss_cons (ps_set (i := 2) sc__law_calls.nd rfl (Or.inl rfl) (pe_dget (hu_of hr) (pe_disp (pps_cons pe_str (pe_lst (pa_cons pe_str pa_nil)) (pps_cons pe_str (pe_lst (pa_cons pe_str (pa_cons pe_str pa_nil))) (pps_cons pe_str (pe_lst (pa_cons pe_str pa_nil)) (pps_cons pe_str (pe_lst (pa_cons pe_str pa_nil)) (pps_cons pe_str (pe_lst (pa_cons pe_str (pa_cons pe_str (pa_cons pe_str pa_nil)))) (pps_cons pe_str (pe_lst (pa_cons pe_str pa_nil)) pps_nil)))))) (by rfl) (by rfl) (fun z => by cases z) (by decide)) (pv 1) (fun _ _ => rfl)))
      (pss_cons (ps_par3 (i := 7) (j := 8) (l := 5) rfl sc__law_calls.nd rfl rfl rfl (by decide) (by decide) (by decide) rfl rfl rfl (pa_cons (k_int B.int rfl (pa_cons (pe_cmpR op_eq (pv 1) pe_str (nomark _)) pa_nil)) (pa_cons (pe_ix ix_tup (pv 0) (pe_un un_neg pe_int) (fun _ _ => rfl)) (pa_cons (pe_lst pa_nil) pa_nil))) (by rfl))
      (pss_cons (ps_for PassesOwn.never rfl (pi_list (pv 2)) (pg_name (i := 3) sc__law_calls.nd rfl (Or.inr rfl)) (pss_one (ps_set (i := 5) sc__law_calls.nd rfl (Or.inl rfl) (pe_op op_cat (pv 5) (pe_lc (own := [("_law_k", 10)]) (g := gName 10) rfl sc__law_calls.nd (pi_range2 (by rfl) B.range (pa_cons (pv 7) (pa_cons (pv 8) pa_nil))) (blkOk_by (own := [("_law_k", 10)]) (N := ["_law_thing", "_law_name", "_law_words", "_law_word", "_law_more", "_law_found", "_law_one", "_law_low", "_law_high", "_law_other", "_law_k"]) (sc := defScope (stm 41)) (by decide +kernel)) (fun _ _ _ _ _ => pg_name (i := 10) sc__law_calls.nd rfl (Or.inl rfl)) (fun _ _ _ _ _ => pts_nil) (fun _ _ _ _ _ => (pe_tup (pa_cons (pv 3) (pa_cons (pv 10) pa_nil)))))))))
      (pss_cons (ps_set (i := 4) sc__law_calls.nd rfl (Or.inl rfl) (pe_disp (pps_cons pe_str (pe_lst (pa_cons (pe_tup (pa_cons pe_str pa_nil)) pa_nil)) (pps_cons pe_str (pe_lst (pa_cons (pe_tup (pa_cons pe_str pa_nil)) pa_nil)) (pps_cons pe_str (pe_lst (pa_cons (pe_tup (pa_cons pe_str pa_nil)) pa_nil)) (pps_cons pe_str (pe_lst (pa_cons (pe_tup (pa_cons pe_str pa_nil)) pa_nil)) pps_nil)))) (by rfl) (by rfl) (fun z => by cases z) (by decide)))
      (pss_one (ps_ret (k_sorted hr B.sorted rfl (pa_cons (pe_op op_cat (pv 5) (pe_dget2 (hu_of hr) (pv 4) (pv 1) (pe_lst pa_nil) ⟨rfl, rfl, rfl, rfl⟩)) pa_nil))))))))))), pr_start h fun as c D r ok k => ?_⟩)
  obtain ⟨t, ht, rfl, rfl⟩ := r
  have so := Th.sortL ht
  cases t with
  | counter m =>
    have hm : 2 ≤ m ∧ m ≤ 4 := ht
    have e : wordC 1 m ["add"] ++ [⟨"look", []⟩] = (Th.counter m).callsL := by simp [wordC, Th.callsL, Th.callsU]
    rw [← e] at so
    repeat walk_at "k00g"
    refine' q_asgL (ev_words (l := wordsL) (x := "counter") (ds := [.str "add"]) (.cons (by walk_at "k00f") (.cons (by walk_at "k00f") (.cons (by walk_at "k00f") (.cons (by walk_at "k00f") (.cons (by walk_at "k00f") (.cons (by walk_at "k00f") .nil)))))) (by decide +kernel) (by decide) (by walk_at "k00f") rfl) fun q => ?nx1
    refine' q_parFFL (d := .int 1) (e := .int m) (es := []) (by walk_at "k00f") (by walk_at "k00f") (ev_lst eva_nil rfl (by decide)) fun p => ?ny1
    exact words_go (nm := "counter") (ws := ["add"]) (lo := 1) (hi := m) (by omega) (by decide) k so p q (Or.inl rfl) fun p' ds => (.cons (by walk_at "k00f") (.cons (by walk_at "k00f") (.cons (by walk_at "k00f") (.cons (by walk_at "k00f") .nil))))
  | register m =>
    have hm : 2 ≤ m ∧ m ≤ 4 := ht
    have e : wordC 0 m ["put", "trade"] ++ [⟨"look", []⟩] = (Th.register m).callsL := by simp [wordC, Th.callsL, Th.callsU]
    rw [← e] at so
    repeat walk_at "k00g"
    refine' q_asgL (ev_words (l := wordsL) (x := "register") (ds := [.str "put", .str "trade"]) (.cons (by walk_at "k00f") (.cons (by walk_at "k00f") (.cons (by walk_at "k00f") (.cons (by walk_at "k00f") (.cons (by walk_at "k00f") (.cons (by walk_at "k00f") .nil)))))) (by decide +kernel) (by decide) (by walk_at "k00f") rfl) fun q => ?nx2
    refine' q_parFFL (d := .int 0) (e := .int m) (es := []) (by walk_at "k00f") (by walk_at "k00f") (ev_lst eva_nil rfl (by decide)) fun p => ?ny2
    exact words_go (nm := "register") (ws := ["put", "trade"]) (lo := 0) (hi := m) (by omega) (by decide) k so p q (Or.inl rfl) fun p' ds => (.cons (by walk_at "k00f") (.cons (by walk_at "k00f") (.cons (by walk_at "k00f") (.cons (by walk_at "k00f") .nil))))
  | stack r m =>
    have hm : 1 ≤ m ∧ m ≤ 2 := ht.2
    have e : wordC 0 m ["push"] ++ [⟨"pop", []⟩] = (Th.stack r m).callsL := by simp [wordC, Th.callsL, Th.callsU]
    rw [← e] at so
    repeat walk_at "k00g"
    refine' q_asgL (ev_words (l := wordsL) (x := "stack") (ds := [.str "push"]) (.cons (by walk_at "k00f") (.cons (by walk_at "k00f") (.cons (by walk_at "k00f") (.cons (by walk_at "k00f") (.cons (by walk_at "k00f") (.cons (by walk_at "k00f") .nil)))))) (by decide +kernel) (by decide) (by walk_at "k00f") rfl) fun q => ?nx3
    refine' q_parFFL (d := .int 0) (e := .int m) (es := []) (by walk_at "k00f") (by walk_at "k00f") (ev_lst eva_nil rfl (by decide)) fun p => ?ny3
    exact words_go (nm := "stack") (ws := ["push"]) (lo := 0) (hi := m) (by omega) (by decide) k so p q (Or.inl rfl) fun p' ds => (.cons (by walk_at "k00f") (.cons (by walk_at "k00f") (.cons (by walk_at "k00f") (.cons (by walk_at "k00f") .nil))))
  | queue r m =>
    have hm : 1 ≤ m ∧ m ≤ 2 := ht.2
    have e : wordC 0 m ["enter"] ++ [⟨"leave", []⟩] = (Th.queue r m).callsL := by simp [wordC, Th.callsL, Th.callsU]
    rw [← e] at so
    repeat walk_at "k00g"
    refine' q_asgL (ev_words (l := wordsL) (x := "queue") (ds := [.str "enter"]) (.cons (by walk_at "k00f") (.cons (by walk_at "k00f") (.cons (by walk_at "k00f") (.cons (by walk_at "k00f") (.cons (by walk_at "k00f") (.cons (by walk_at "k00f") .nil)))))) (by decide +kernel) (by decide) (by walk_at "k00f") rfl) fun q => ?nx4
    refine' q_parFFL (d := .int 0) (e := .int m) (es := []) (by walk_at "k00f") (by walk_at "k00f") (ev_lst eva_nil rfl (by decide)) fun p => ?ny4
    exact words_go (nm := "queue") (ws := ["enter"]) (lo := 0) (hi := m) (by omega) (by decide) k so p q (Or.inl rfl) fun p' ds => (.cons (by walk_at "k00f") (.cons (by walk_at "k00f") (.cons (by walk_at "k00f") (.cons (by walk_at "k00f") .nil))))
  | set m =>
    have hm : 2 ≤ m ∧ m ≤ 3 := ht
    have e : wordC 0 m ["add", "drop", "has"] ++ [] = (Th.set m).callsL := by simp [wordC, Th.callsL, Th.callsU]
    rw [← e] at so
    repeat walk_at "k00g"
    refine' q_asgL (ev_words (l := wordsL) (x := "set") (ds := [.str "add", .str "drop", .str "has"]) (.cons (by walk_at "k00f") (.cons (by walk_at "k00f") (.cons (by walk_at "k00f") (.cons (by walk_at "k00f") (.cons (by walk_at "k00f") (.cons (by walk_at "k00f") .nil)))))) (by decide +kernel) (by decide) (by walk_at "k00f") rfl) fun q => ?nx5
    refine' q_parFFL (d := .int 0) (e := .int m) (es := []) (by walk_at "k00f") (by walk_at "k00f") (ev_lst eva_nil rfl (by decide)) fun p => ?ny5
    exact words_go (nm := "set") (ws := ["add", "drop", "has"]) (lo := 0) (hi := m) (by omega) (by decide) k so p q (Or.inr ⟨rfl, rfl⟩) fun p' ds => (.cons (by walk_at "k00f") (.cons (by walk_at "k00f") (.cons (by walk_at "k00f") (.cons (by walk_at "k00f") .nil))))
  | agree m =>
    have hm : 2 ≤ m ∧ m ≤ 3 := ht
    have e : wordC 0 m ["decide"] ++ [] = (Th.agree m).callsL := by simp [wordC, Th.callsL, Th.callsU]
    rw [← e] at so
    repeat walk_at "k00g"
    refine' q_asgL (ev_words (l := wordsL) (x := "agree") (ds := [.str "decide"]) (.cons (by walk_at "k00f") (.cons (by walk_at "k00f") (.cons (by walk_at "k00f") (.cons (by walk_at "k00f") (.cons (by walk_at "k00f") (.cons (by walk_at "k00f") .nil)))))) (by decide +kernel) (by decide) (by walk_at "k00f") rfl) fun q => ?nx6
    refine' q_parFFL (d := .int 0) (e := .int m) (es := []) (by walk_at "k00f") (by walk_at "k00f") (ev_lst eva_nil rfl (by decide)) fun p => ?ny6
    exact words_go (nm := "agree") (ws := ["decide"]) (lo := 0) (hi := m) (by omega) (by decide) k so p q (Or.inr ⟨rfl, rfl⟩) fun p' ds => (.cons (by walk_at "k00f") (.cons (by walk_at "k00f") (.cons (by walk_at "k00f") (.cons (by walk_at "k00f") .nil))))
  | table rows =>
    obtain ⟨i0, w1, w2⟩ := row_wide ht
    have hb : 0 ≤ ((((rows.headD []).map pairP).length : Int)) ∧ ((((rows.headD []).map pairP).length : Int)) ≤ 100000 := by
      rw [List.length_map]
      omega
    repeat walk_at "k00g"
    refine' st_ret (Ev.is ?h ?e) k
    case h =>
      refine' ev_lcW (evi_rng1 ?h1 hb) (by decide) ?h2 (of_decide_eq_true rfl)
      case h1 => walk_at "k00e"
      case h2 =>
        rw [rangeR_len2, List.length_map]
        omega
    case e =>
      rw [rangeR_iv, List.length_map, List.map_map]
      show _ = AR.l (((iv 0 (rows.headD []).length).map fun k => (⟨"do", [k]⟩ : Cal)).map Cal.d)
      rw [List.map_map]
      rfl
  | bank ns =>
    have hn : (ns.length : Int) = 2 ∨ (ns.length : Int) = 3 := by have := ht.1; omega
    have hn3 : (ns.length : Int).toNat ≤ 3 := by omega
    have hlen : (((ns.map PyData.int).length : Nat) : Int) = (ns.length : Int) := by rw [List.length_map]
    have hb : 0 ≤ (ns.length : Int) ∧ (ns.length : Int) ≤ 100000 := by omega
    have lenE : ∀ {E : List AV}, E[0]? = some (.dat (Th.bank ns).d) → Ev W0 H (tCB (rLenZ K) (tCons (tOp (rIxT K) (tVar 0) (tC (.int 1))) tNil)) E (.f (.int (ns.length : Int))) := fun {E} h0 =>
      Ev.is (ev_lenB (ds := ns.map .int) (ev_ixT (ds := [.str "bank", .tuple (ns.map .int)]) (ev_dat h0) ev_int rfl) (.inr rfl)) (by rw [hlen])
    repeat walk_at "k00g"
    refine' q_asgL (ds := (rangeR 0 (ns.length : Int)).map fun d => .tuple [.str "look", d]) (ev_lcW (evi_rng1 (lenE rfl) hb) (by decide) (by rw [rangeR_len]; omega) (of_decide_eq_true rfl)) fun p => ?nx7
    refine' q_forR (fun m E' => m ≤ (ns.length : Int).toNat ∧ ∃ p, E' = [.dat (Th.bank ns).d, .dat (.str "bank"), .no, .no, .no, .own p (((rangeR 0 (ns.length : Int)).map fun d => PyData.tuple [.str "look", d]) ++ bankO (ns.length : Int) m), .no, .no, .no, .no, .no]) (lenE rfl) hb ⟨Nat.zero_le _, p, by simp [bankO]; rfl⟩ (fun m E' hm p1 => ?turn) fun E' p1 => ?done
    case done =>
      obtain ⟨_, p, rfl⟩ := p1
      rw [bank_all hn]
      exact st_ret (Ev.is (ev_sort (ev_own rfl) (.inr rfl) so.alike so.sortable so.len so.dep) (congrArg AR.l so.eq)) k
    case turn =>
      obtain ⟨_, p, rfl⟩ := p1
      refine' st_forR (fun l E' => l ≤ (ns.length : Int).toNat ∧ ∃ p, E' = [.dat (Th.bank ns).d, .dat (.str "bank"), .no, .no, .no, .own p (((rangeR 0 (ns.length : Int)).map fun d => PyData.tuple [.str "look", d]) ++ bankO (ns.length : Int) m ++ bankJ m l), .dat (.int m), .no, .no, .no, .no]) (lenE rfl) hb ⟨Nat.zero_le _, p, by simp [bankJ]⟩ (fun l E' hl p2 => ?turn2) fun E' p2 σ H S => ?done2
      case done2 =>
        obtain ⟨_, p, rfl⟩ := p2
        refine ⟨_, ⟨by omega, p, rfl⟩, ?_⟩
        have e : bankO (ns.length : Int) (m + 1) = bankO (ns.length : Int) m ++ bankJ m (ns.length : Int).toNat := by simp [bankO, List.range_succ, List.flatMap_append]
        rw [e, ← List.append_assoc]
        exact S.wk (.same (.same (.same (.same (.same (.same (.no (.same (.same (.same (.same .nil)))))))))))
      case turn2 =>
        obtain ⟨_, p, rfl⟩ := p2
        have e : bankJ m (l + 1) = bankJ m l ++ bankI m l := by simp [bankJ, List.range_succ, List.flatMap_append]
        refine' st_if (et_test (ev_neI (ev_dat rfl) (ev_dat rfl))) (fun hb => st_asgL (ev_cat (es := [PyData.int 1, .int 2, .int 3].map fun d => .tuple [.str "move", .int m, .int l, d]) (ev_own rfl) ?ext (.inr rfl) (.inl rfl) ?len) fun p σ H S => ?fin) fun hb => st_next fun σ H S => ?fin2
        case ext => exact ev_lc1 (src := [PyData.int 1, .int 2, .int 3]) (fun d => .tuple [.str "move", .int m, .int l, d]) (evi_lst (ev_lst (as := [.f (.int 1), .f (.int 2), .f (.int 3)]) (by walk_at "k00a") rfl (by decide)) (.inl rfl)) (by decide) (by decide) fun d _ => by walk_at "k00f"
        case len =>
          have h1 := bankO_len hn3 m
          have h2 := bankJ_len m l
          simp only [List.length_append, List.length_map, rangeR_len, List.length_cons, List.length_nil]
          omega
        case fin =>
          refine ⟨_, ⟨by omega, p, rfl⟩, ?_⟩
          have e2 : bankI m l = [PyData.int 1, .int 2, .int 3].map fun d => .tuple [.str "move", .int m, .int l, d] := by
            unfold bankI
            rw [if_pos (by simpa using hb)]
            rfl
          rw [e, e2, ← List.append_assoc]
          exact S.wk (.same (.same (.same (.same (.same (.same (.same (.same (.same (.no (.same .nil)))))))))))
        case fin2 =>
          refine ⟨_, ⟨by omega, p, rfl⟩, ?_⟩
          have e2 : bankI m l = [] := by
            unfold bankI
            rw [if_neg (by simpa using hb)]
          rw [e, e2, List.append_nil]
          exact S.wk (.same (.same (.same (.same (.same (.same (.same (.same (.same (.no (.same .nil)))))))))))
theorem sc__law_states : FnScope ["_law_thing", "_law_found", "_law_at", "_law_call", "_law_there"] ["_law_thing"] (defScope (stm 44)) := ⟨rfl, rfl, rfl, by decide +kernel, rfl, by decide +kernel, by decide +kernel⟩
theorem ok__law_states {f1 f2 f3 : Addr} {fd1 fd2 fd3 : FuncData} (F : FnP K "_law_states" 44 f fd) (B : Bt mg)
    (G__law_first : FnOk P w K mg base CX0 1 f1 fd1 ["_law_thing"] (Pr relFirst)) (N__law_first : Kn K mg "_law_first" ["_law_thing"] f1 fd1) (G__law_calls : FnOk P w K mg base CX0 1 f2 fd2 ["_law_thing"] (Pr relCallsL)) (N__law_calls : Kn K mg "_law_calls" ["_law_thing"] f2 fd2)
    (G__law_do : FnOk P w K mg base CX0 2 f3 fd3 ["_law_thing", "_law_state", "_law_call"] (Pr relStep)) (N__law_do : Kn K mg "_law_do" ["_law_thing", "_law_state", "_law_call"] f3 fd3) : FnOk P w K mg base CX0 3 f fd ["_law_thing"] (Pr relStates) := by
  refine F.ok sc__law_states (fun vs H Q E h => pr_len (fun as c r => by obtain ⟨t, _, rfl, _⟩ := r; rfl) h) (fun cdv A outer s H vs Q E hr h => ⟨_, PSs.nox (pss_cons (ps_par (i := 1) (j := 2) rfl sc__law_states.nd rfl rfl (by decide) rfl rfl (pa_cons (pe_lst (pa_cons (k_call G__law_first N__law_first hr (by decide) rfl (pa_cons (pv 0) pa_nil)) pa_nil)) (pa_cons pe_int pa_nil)) (by rfl))
      (pss_cons (ps_while PassesOwn.never (pt_cmpR op_lt (pv 2) (k_len B.len rfl (pa_cons (pv 1) pa_nil)) (nomark _)) (pss_cons (ps_for PassesOwn.never rfl (pi_list (k_call G__law_calls N__law_calls hr (by decide) rfl (pa_cons (pv 0) pa_nil))) (pg_name (i := 3) sc__law_states.nd rfl (Or.inl rfl)) (pss_cons (ps_set (i := 4) sc__law_states.nd rfl (Or.inl rfl) (pe_ix ix_tup (k_call G__law_do N__law_do hr (by decide) rfl (pa_cons (pv 0) (pa_cons (pe_ix ix_list (pv 1) (pv 2) (fun _ _ => rfl)) (pa_cons (pv 3) pa_nil)))) pe_int (fun _ _ => rfl)))
      (pss_one (ps_if (pt_cmpR (op_notInD (room65 hr)) (pv 4) (pv 1) (by rfl)) (pss_one (ps_expr (pe_bm PySem.F.plainAttrs_list PySem.F.slot_list_append PySem.F.type_list_append mt_append (pv 1) (pa_cons (pv 4) pa_nil)))) pss_nil))))
      (pss_one (ps_set (i := 2) sc__law_states.nd rfl (Or.inl rfl) (pe_op op_add (pv 2) pe_int)))))
      (pss_one (ps_ret (pv 1))))), pr_start h fun as c D r ok k => ?_⟩)
  obtain ⟨t, ht, rfl, rfl⟩ := r
  refine' q_parOwn2 (ds := [t.first.d]) (d := .int 0) ?a1 ev_int fun p => ?nx0
  case a1 => exact ev_lst (as := [.f t.first.d]) (eva_cons (ev_first (by walk_at "k00a") ht) eva_nil) rfl (by show 1 ≤ 100000; decide)
  refine' q_while (fun m E' => ∃ (f : List Sta) (i : Nat), m = 5000 - i ∧ t.Inv f ∧ t.bfs (5000 - i) f i = t.states ∧ E' = [.dat t.d, .own p (f.map Sta.d), .dat (.int (i : Int)), .no, .no]) 5000 ⟨[t.first], 0, rfl, Th.inv0 ht, rfl, rfl⟩ fun m E' g => ?nx1
  obtain ⟨f, i, rfl, inv, bf, rfl⟩ := g
  have hlen := inv.len ht
  refine ⟨decide ((i : Int) < ((f.map Sta.d).length : Int)), et_test (ev_cmp2 (ev_dat rfl) (ev_lenB (ev_own rfl) (.inl rfl))), fun hb => ?_, fun hb => ?_⟩
  · have hi : i < f.length := by
      have := of_decide_eq_true hb
      rw [List.length_map] at this
      omega
    have hs : f[i]? = some f[i] := List.getElem?_eq_getElem hi
    have hsm : f[i] ∈ f := List.getElem_mem hi
    generalize f[i] = s at hs hsm
    have hok := inv.ok s hsm
    refine go_seq (st_forTmp (pf := p) (i0 := 1) (ds0 := f.map Sta.d) (ev_callsL (by walk_at "k00a") ht) rfl (fun n E' => ∃ g, g = t.turn s f (t.calls.take n) ∧ t.Inv g ∧ E' = [.dat t.d, .own p (g.map Sta.d), .dat (.int (i : Int)), .no, .no]) ⟨f, rfl, inv, rfl⟩ (fun q hpq nr n d E' hd z σ H S lq => ?_) fun E' z => ?_)
    · obtain ⟨g, hg, ginv, rfl⟩ := z
      obtain ⟨c, hc, rfl⟩ : ∃ c, t.calls[n]? = some c ∧ d = c.d := by
        rw [List.getElem?_map] at hd
        obtain ⟨c, e1, e2⟩ := Option.map_eq_some_iff.mp hd
        exact ⟨c, e1, e2.symm⟩
      have hcm : c ∈ t.calls := List.mem_of_getElem? hc
      have gi : (g.map Sta.d)[i]? = some s.d := by
        have pre : f <+: g := by rw [hg]; exact turn_pre t s _ f
        obtain ⟨r, e⟩ := pre
        rw [List.getElem?_map, ← e, List.getElem?_append_left hi, hs]
        rfl
      have gI : atI (g.map Sta.d) (i : Int) = some s.d := atI_nat gi
      have glen := ginv.len ht
      have eq : (!(g.map Sta.d).any fun z => PyData.eqv z (t.step s c).1.d) = !g.contains (t.step s c).1 := by rw [any_eqv]
      have gn : t.turn s f (t.calls.take (n + 1)) = addNew g (t.step s c).1 := by rw [take_snoc hc, turn_snoc, ← hg]
      refine go_keep (i := 1) (j := 4) (d := (t.step s c).1.d) (ds := g.map Sta.d) (pf := p) (b := !g.contains (t.step s c).1) (ev_ixT (ds := [(t.step s c).1.d, (t.step s c).2]) (ev_step (t := t) (s := s) (l := c) (eva_cons (ev_dat rfl) (eva_cons (ev_ixL (ev_own rfl) (ev_dat rfl) (.inr rfl) gI) (eva_cons (ev_dat rfl) eva_nil))) ht hok (Th.okC_of hcm)) ev_int rfl)
        (EvT.is (et_test (ev_niD (ev_dat rfl) (ev_own rfl) rfl rfl (Sta.sh _).shaped (stas_sh g).shaped)) eq) (by show 4 < 5; decide) (by decide) rfl (by intro a ha d z; subst z; simp [List.set] at ha) (by rw [List.length_map]; omega) hpq nr S lq fun σ H S lq => ?_
      refine ⟨_, ⟨addNew g (t.step s c).1, gn.symm, ginv.add (Th.step_ok ht hok hcm), rfl⟩, ?_, lq⟩
      have e : (addNew g (t.step s c).1).map Sta.d = if (!g.contains (t.step s c).1) = true then g.map Sta.d ++ [(t.step s c).1.d] else g.map Sta.d := by
        rw [addNew_map]
        cases g.contains (t.step s c).1 <;> rfl
      rw [e]
      exact S.wk (.same (.same (.same (.no (.no .nil)))))
    · obtain ⟨g, hg, ginv, rfl⟩ := z
      rw [List.length_map, List.take_length] at hg
      have hm : 5000 - (i + 1) < 5000 - i := by omega
      generalize hq : 5000 - (i + 1) = m1 at hm
      refine' st_asgF (d := .int ((i : Int) + 1)) (ev_int2 (g := fun i j => i + j) (ev_dat rfl) ev_int) fun σ H S => ?fin
      refine ⟨m1, _, hm, ⟨g, i + 1, hq.symm, ginv, ?_, rfl⟩, S.wk ?_⟩
      · rw [← bf, show 5000 - i = (5000 - (i + 1)) + 1 by omega, bfs_go hs, hg]
      · exact .same (.same (.same (.no (.no .nil))))
  · have hi : f.length ≤ i := by
      have := of_decide_eq_false hb
      rw [List.length_map] at this
      omega
    have e : f = t.states := by rw [← bf, bfs_end (List.getElem?_eq_none hi)]
    exact st_retOwn rfl (k.eq (by rw [e]) rfl)
end
end K00

/-! Part L. -/
set_option Elab.async false
set_option linter.all false
set_option autoImplicit false
set_option maxRecDepth 100000
set_option maxHeartbeats 4000000
/-! The law's likeness. -/
namespace K00
open PySem PySem.Spec PyProof.Rows L2
local macro_rules | `(tactic| walk_at "k00a") => `(tactic| first
  | (with_reducible exact eva_nil)
  | ((with_reducible refine' eva_cons ?k1 ?k2); (case k1 => walk_at "k00e"); (case k2 => walk_at "k00a"))
  | ((with_reducible refine' eva_star ?k1 ?k2); (case k1 => walk_at "k00e"); (case k2 => walk_at "k00a")))
local macro_rules | `(tactic| walk_at "k00o") => `(tactic| first
  | (with_reducible exact evo_no)
  | ((with_reducible refine' evo_some ?k1); (case k1 => walk_at "k00e")))
local macro_rules | `(tactic| walk_at "k00e") => `(tactic| first
  | (with_reducible exact ev_int)
  | (with_reducible exact ev_str)
  | (with_reducible exact ev_bl)
  | (with_reducible exact ev_non)
  | ((with_reducible refine' ev_dat ?k1); (case k1 => rfl))
  | ((with_reducible refine' ev_own ?k1); (case k1 => rfl))
  | ((with_reducible refine' ev_argF ?k1 ?k2); (case k1 => rfl); (case k2 => rfl))
  | ((with_reducible refine' ev_arg ?k1); (case k1 => rfl))
  | ((with_reducible refine' ev_genF ?k1 ?k2); (case k1 => rfl); (case k2 => rfl))
  | ((with_reducible refine' ev_gen ?k1); (case k1 => rfl))
  | ((with_reducible refine' ev_raw ?k1); (case k1 => rfl))
  | ((with_reducible refine' ev_ixT ?k1 ?k2 ?k3); (case k1 => walk_at "k00e"); (case k2 => walk_at "k00e"); (case k3 => walk_at "k00i"))
  | ((with_reducible refine' ev_ixL ?k1 ?k2 ?k4 ?k3); (case k1 => walk_at "k00e"); (case k2 => walk_at "k00e"); (case k4 => first | exact Or.inl rfl | exact Or.inr rfl); (case k3 => walk_at "k00i"))
  | ((with_reducible refine' ev_isInt ?k1 ?k2); (case k1 => walk_at "k00e"); (case k2 => rfl))
  | ((with_reducible refine' ev_isBool ?k1 ?k2); (case k1 => walk_at "k00e"); (case k2 => rfl))
  | ((with_reducible refine' ev_isStr ?k1 ?k2); (case k1 => walk_at "k00e"); (case k2 => rfl))
  | ((with_reducible refine' ev_isTup ?k1 ?k2); (case k1 => walk_at "k00e"); (case k2 => rfl))
  | ((with_reducible refine' ev_isLst ?k1 ?k2); (case k1 => walk_at "k00e"); (case k2 => rfl))
  | ((with_reducible refine' ev_isSeq ?k1 ?k2); (case k1 => walk_at "k00e"); (case k2 => rfl))
  | ((with_reducible refine' ev_lenB ?k1 ?k2); (case k1 => walk_at "k00e"); (case k2 => first | exact Or.inl rfl | exact Or.inr rfl))
  | ((with_reducible refine' ev_int2 ?k1 ?k2); (case k1 => walk_at "k00e"); (case k2 => walk_at "k00e"))
  | ((with_reducible refine' ev_cmp2 ?k1 ?k2); (case k1 => walk_at "k00e"); (case k2 => walk_at "k00e"))
  | ((with_reducible refine' ev_intC ?k1 ?k2 ?k3); (case k1 => walk_at "k00e"); (case k2 => walk_at "k00e"); (case k3 => walk_at "k00c"))
  | ((with_reducible refine' ev_eqS ?k1 ?k2); (case k1 => walk_at "k00e"); (case k2 => walk_at "k00e"))
  | ((with_reducible refine' ev_eqI ?k1 ?k2); (case k1 => walk_at "k00e"); (case k2 => walk_at "k00e"))
  | ((with_reducible refine' ev_neI ?k1 ?k2); (case k1 => walk_at "k00e"); (case k2 => walk_at "k00e"))
  | ((with_reducible refine' ev_eqB ?k1 ?k2); (case k1 => walk_at "k00e"); (case k2 => walk_at "k00e"))
  | ((with_reducible refine' ev_neB ?k1 ?k2); (case k1 => walk_at "k00e"); (case k2 => walk_at "k00e"))
  | ((with_reducible refine' ev_eqD ?k1 ?k2 ?k3 ?k4 ?k5 ?k6); (case k1 => walk_at "k00e"); (case k2 => walk_at "k00e"); (case k3 => rfl); (case k4 => rfl); (case k5 => walk_at "k00s"); (case k6 => walk_at "k00s"))
  | ((with_reducible refine' ev_neD ?k1 ?k2 ?k3 ?k4 ?k5 ?k6); (case k1 => walk_at "k00e"); (case k2 => walk_at "k00e"); (case k3 => rfl); (case k4 => rfl); (case k5 => walk_at "k00s"); (case k6 => walk_at "k00s"))
  | ((with_reducible refine' ev_inD ?k1 ?k2 ?k3 ?k4 ?k5 ?k6); (case k1 => walk_at "k00e"); (case k2 => walk_at "k00e"); (case k3 => rfl); (case k4 => rfl); (case k5 => walk_at "k00s"); (case k6 => walk_at "k00s"))
  | ((with_reducible refine' ev_niD ?k1 ?k2 ?k3 ?k4 ?k5 ?k6); (case k1 => walk_at "k00e"); (case k2 => walk_at "k00e"); (case k3 => rfl); (case k4 => rfl); (case k5 => walk_at "k00s"); (case k6 => walk_at "k00s"))
  | ((with_reducible refine' ev_isNone ?k1 ?k2); (case k1 => walk_at "k00e"); (case k2 => rfl))
  | ((with_reducible refine' ev_notNone ?k1 ?k2); (case k1 => walk_at "k00e"); (case k2 => rfl))
  | ((with_reducible refine' ev_neg ?k1); (case k1 => walk_at "k00e"))
  | ((with_reducible refine' ev_tup ?k1 ?k2 ?k3); (case k1 => walk_at "k00a"); (case k2 => first | rfl | exact allF_app _ _); (case k3 => walk_at "k00l"))
  | ((with_reducible refine' ev_lst ?k1 ?k2 ?k3); (case k1 => walk_at "k00a"); (case k2 => first | rfl | exact allF_app _ _); (case k3 => walk_at "k00l"))
  | ((with_reducible refine' ev_slT ?k1 ?k2 ?k3); (case k1 => walk_at "k00e"); (case k2 => walk_at "k00o"); (case k3 => walk_at "k00o"))
  | ((with_reducible refine' ev_catT ?k1 ?k2 ?k3); (case k1 => walk_at "k00e"); (case k2 => walk_at "k00e"); (case k3 => walk_at "k00l"))
  | ((with_reducible refine' ev_cat ?k1 ?k2 ?k4 ?k5 ?k3); (case k1 => walk_at "k00e"); (case k2 => walk_at "k00e"); (case k4 => first | exact Or.inl rfl | exact Or.inr rfl); (case k5 => first | exact Or.inl rfl | exact Or.inr rfl); (case k3 => walk_at "k00l"))
  | ((with_reducible refine' ev_tupOf ?k1 ?k2); (case k1 => walk_at "k00e"); (case k2 => first | exact Or.inl rfl | exact Or.inr rfl))
  | ((with_reducible refine' ev_lstOf ?k1); (case k1 => walk_at "k00e"))
  | ((with_reducible refine' ev_intI ?k1); (case k1 => walk_at "k00e"))
  | ((with_reducible refine' ev_intB ?k1); (case k1 => walk_at "k00e"))
  | ((with_reducible refine' ev_and0 ?k1 ?k2); (case k1 => walk_at "k00e"); (case k2 => first | rfl | assumption))
  | ((with_reducible refine' ev_or1 ?k1 ?k2); (case k1 => walk_at "k00e"); (case k2 => first | rfl | assumption))
  | ((with_reducible refine' ev_ifT ?k1 ?k2 ?k3); (case k1 => walk_at "k00t"); (case k2 => first | rfl | assumption); (case k3 => walk_at "k00e"))
  | ((with_reducible refine' ev_ifF ?k1 ?k2 ?k3); (case k1 => walk_at "k00t"); (case k2 => first | rfl | assumption); (case k3 => walk_at "k00e"))
  | ((with_reducible refine' ev_andV ?k1 ?k2); (case k1 => walk_at "k00e"); (case k2 => intro hb; walk_at "k00e"))
  | ((with_reducible refine' ev_orV ?k1 ?k2); (case k1 => walk_at "k00e"); (case k2 => intro hb; walk_at "k00e"))
  | ((with_reducible refine' ev_notV ?k1); (case k1 => walk_at "k00e"))
  | ((with_reducible refine' ev_chain ?k1 ?k2 ?k3); (case k1 => walk_at "k00e"); (case k2 => walk_at "k00e"); (case k3 => walk_at "k00e"))
  | ((with_reducible refine' ev_inT ?k1 ?k2 ?k3 ?k4); (case k1 => walk_at "k00e"); (case k2 => walk_at "k00e"); (case k3 => walk_at "k00w"); (case k4 => rfl))
  | ((with_reducible refine' ev_inN ?k1 ?k2 ?k3 ?k4); (case k1 => walk_at "k00e"); (case k2 => walk_at "k00e"); (case k3 => walk_at "k00w"); (case k4 => rfl))
  | ((with_reducible refine' ev_inI ?k1 ?k2 ?k3); (case k1 => walk_at "k00e"); (case k2 => walk_at "k00e"); (case k3 => exact Or.inr (Or.inr rfl)))
  | ((with_reducible refine' ev_lcW ?k1 ?k2 ?k3 ?k4); (case k1 => walk_at "k00n"); (case k2 => decide); (case k3 => walk_at "k00x"); (case k4 => first | decide | exact of_decide_eq_true rfl))
  | walk_at "k00r"
  | (with_reducible exact ev_c))
local macro_rules | `(tactic| walk_at "k00k") => `(tactic| first
  | exact Coes.nil
  | ((refine' Coes.cons ?k1 ?k2); (case k1 => first | exact coe_rfl | exact coe_b rfl); (case k2 => walk_at "k00k")))
local macro_rules | `(tactic| walk_at "k00i") => `(tactic| first | rfl | assumption)
local macro_rules | `(tactic| walk_at "k00c") => `(tactic| first | trivial | decide | omega | assumption | exact Or.inl ⟨by omega, by omega⟩)
local macro_rules | `(tactic| walk_at "k00l") => `(tactic| first | decide | (simp; done) | (simp; omega) | omega | assumption | (simp [rangeR_len2, fzs]; done) | (simp [rangeR_len2, fzs]; omega))
local macro_rules | `(tactic| walk_at "k00s") => `(tactic| first | rfl | decide +kernel | assumption | exact Sh.shaped (by assumption))
local macro_rules | `(tactic| walk_at "k00t") => `(tactic| first
  | ((with_reducible refine' et_test ?k1); (case k1 => walk_at "k00e"))
  | ((with_reducible refine' et_B ?k1); (case k1 => walk_at "k00e"))
  | ((with_reducible refine' et_not ?k1); (case k1 => walk_at "k00t"))
  | ((with_reducible refine' et_and0 ?k1 ?k2); (case k1 => walk_at "k00t"); (case k2 => first | rfl | assumption))
  | ((with_reducible refine' et_or1 ?k1 ?k2); (case k1 => walk_at "k00t"); (case k2 => first | rfl | assumption))
  | ((with_reducible refine' et_and ?k1 ?k2); (case k1 => walk_at "k00t"); (case k2 => intro hb; walk_at "k00t"))
  | ((with_reducible refine' et_or ?k1 ?k2); (case k1 => walk_at "k00t"); (case k2 => intro hb; walk_at "k00t"))
  | (with_reducible exact et_yes))

local macro_rules | `(tactic| walk_at "k00n") => `(tactic| first
  | ((with_reducible refine' evi_rng1 ?k1 ?k2); (case k1 => walk_at "k00e"); (case k2 => walk_at "k00y"))
  | ((with_reducible refine' evi_rng2 ?k1 ?k2 ?k3); (case k1 => walk_at "k00e"); (case k2 => walk_at "k00e"); (case k3 => walk_at "k00y"))
  | ((with_reducible refine' evi_tup ?k1); (case k1 => walk_at "k00e"))
  | ((with_reducible refine' evi_lst ?k1 ?k2); (case k1 => walk_at "k00e"); (case k2 => first | exact Or.inl rfl | exact Or.inr rfl)))
local macro_rules | `(tactic| walk_at "k00y") => `(tactic| first | decide | omega | (simp; omega) | assumption)
local macro_rules | `(tactic| walk_at "k00x") => `(tactic| first | decide | assumption | (rw [rangeR_iv, List.length_map]; unfold iv; rw [List.length_map, List.length_range]; omega))
local macro_rules | `(tactic| walk_at "k00w") => `(tactic| first | exact Or.inr (Or.inr rfl) | exact Or.inl rfl | exact Or.inr (Or.inl rfl))
local macro_rules | `(tactic| walk_at "k00b") => `(tactic| first | decide +kernel | rfl | assumption | (simp; done))
local macro_rules | `(tactic| walk_at "k00g") => `(tactic| first
  | ((with_reducible refine' q_asgF ?k1 ?k2); (case k1 => walk_at "k00e"))
  | ((with_reducible refine' q_guardF ?k1 ?k2 ?k3); (case k1 => walk_at "k00t"); (case k2 => walk_at "k00b"))
  | ((with_reducible refine' q_guardT ?k1 ?k2 ?k3); (case k1 => walk_at "k00t"); (case k2 => walk_at "k00b"))
  | ((with_reducible refine' q_two ?k1 ?k2); (case k1 => walk_at "k00e"))
  | ((with_reducible refine' q_par ?k1 ?k2); (case k1 => walk_at "k00a"))
  | ((with_reducible refine' q_par3 ?k1 ?k2); (case k1 => walk_at "k00a")))
local macro_rules | `(tactic| walk_at "k00f") => `(tactic| ((refine' Ev.is ?k1 ?k2); (case k1 => walk_at "k00e"); (case k2 => rfl)))
local macro_rules | `(tactic| walk_at "k00r") => `(tactic| first
  | ((with_reducible refine' ev_small ?k1 ?k2); (case k1 => walk_at "k00a"); (case k2 => rfl))
  | ((with_reducible refine' ev_bank ?k1); (case k1 => walk_at "k00a"))
  | ((with_reducible refine' ev_table ?k1); (case k1 => walk_at "k00a")))
def alikeL (al : PyData → PyData → Bool) : List PyData → List PyData → Bool
  | [], [] => true
  | x :: xs, y :: ys => al x y && alikeL al xs ys
  | _, _ => false
def alikeN : Nat → PyData → PyData → Bool
  | 0, _, _ => false
  | n + 1, d, e => match e with
    | .tuple es => match d with
      | .tuple ds => alikeL (alikeN n) ds es
      | _ => false
    | .list _ => false
    | .dict _ => false
    | .none => PyData.eqv d .none && decide (isStr d = false)
    | .str x => PyData.eqv d (.str x) && decide (isStr d = true)
    | .int i => isInt d && (decide (isBool d = false) && PyData.eqv d (.int i))
    | .bool b => isInt d && (decide (isBool d = true) && PyData.eqv d (.bool b))
def fits : Nat → PyData → Bool
  | 0, _ => false
  | n + 1, .tuple es => decide (es.length ≤ 50000) && es.all (fits n)
  | _ + 1, .list _ => false
  | _ + 1, .dict _ => false
  | _ + 1, _ => true
/-- at place i -/
def alikeAt (al : PyData → PyData → Bool) (ds es : List PyData) (x : PyData) : Bool := match x with
  | .int i => al (ds.getD i.toNat .none) (es.getD i.toNat .none)
  | _ => false
theorem alike_zip (al : PyData → PyData → Bool) : ∀ (ds es : List PyData), ds.length = es.length → alikeL al ds es = (List.range es.length).all fun i => al (ds.getD i .none) (es.getD i .none)
  | [], [], _ => rfl
  | x :: xs, y :: ys, h => by
    have ih := alike_zip al xs ys (by simpa using h)
    show (al x y && alikeL al xs ys) = _
    rw [ih, List.length_cons, List.range_succ_eq_map, List.all_cons, List.all_map]
    rfl
  | [], _ :: _, h => by simp at h
  | _ :: _, [], h => by simp at h
theorem alike_ne (al : PyData → PyData → Bool) : ∀ (ds es : List PyData), ds.length ≠ es.length → alikeL al ds es = false
  | [], [], h => absurd rfl h
  | x :: xs, y :: ys, h => by
    show (al x y && alikeL al xs ys) = _
    rw [alike_ne al xs ys (fun z => h (by rw [List.length_cons, List.length_cons, z])), Bool.and_false]
  | [], _ :: _, _ => rfl
  | _ :: _, [], _ => rfl
theorem alike_rng (al : PyData → PyData → Bool) (ds es : List PyData) (h : ds.length = es.length) : alikeL al ds es = (rangeR 0 (es.length : Int)).all (alikeAt al ds es) := by
  rw [alike_zip al ds es h]
  unfold rangeR
  rw [List.all_map]
  have e : ((es.length : Int) - 0).toNat = es.length := by omega
  rw [e]
  congr 1
  funext i
  show _ = al (ds.getD (0 + (i : Int)).toNat .none) (es.getD (0 + (i : Int)).toNat .none)
  rw [Int.zero_add, Int.toNat_natCast]
def relAlike (n : Nat) (as : List AR) (c : AR) : Prop := ∃ d e, as = [.f d, .f e] ∧ fits n e = true ∧ Sh 40 d ∧ Sh 40 e ∧ c = .f (.bool (alikeN n d e))
section
variable {W : Wd} {H0 : Hp} {ta : TA} {E : List AV} {Ex : XK} {d e : PyData} {n : Nat}
theorem ev_alike (h : EvA W H0 ta E [.f d, .f e]) (hf : fits n e = true) (s1 : Sh 40 d) (s2 : Sh 40 e) : Ev W H0 (tCall (Pr (relAlike n)) [] Ex ta) E (.f (.bool (alikeN n d e))) := ev_call h (.cons coe_rfl (.cons coe_rfl .nil)) ⟨d, e, rfl, hf, s1, s2, rfl⟩ trivial
end
section
variable {P : Program} {w : World} {K : PySem.W.Frag} {mg : Str → Option Value} {base : Heap} {f : Addr} {fd : FuncData}
theorem sc__law_alike : FnScope ["_law_found", "_law_due", "_law_k"] ["_law_found", "_law_due"] (defScope (stm 39)) := ⟨rfl, rfl, rfl, by decide +kernel, rfl, by decide +kernel, by decide +kernel⟩
theorem Sh.at {n : Nat} {ds : List PyData} (h : Sh n (.tuple ds)) {x : PyData} (hx : x ∈ ds) : Sh n x := by
  cases n with
  | zero =>
    have := h.dep
    simp [PyData.depth] at this
  | succ n => exact ((Sh.ofTup h).each x hx).mono (Nat.le_succ n)
theorem ok__law_alike_step {n : Nat} (F : FnP K "_law_alike" 39 f fd) (B : Bt mg) (N__law_alike : Kn K mg "_law_alike" ["_law_found", "_law_due"] f fd) (G__law_alike : FnOk P w K mg base CX0 n f fd ["_law_found", "_law_due"] (Pr (relAlike n))) : FnOk P w K mg base CX0 (n + 1) f fd ["_law_found", "_law_due"] (Pr (relAlike (n + 1))) := by
  refine F.ok sc__law_alike (fun vs H Q E h => pr_len (fun as c r => by obtain ⟨d, e, rfl, _⟩ := r; rfl) h) (fun cdv A outer s H vs Q E hr h => ⟨_, PSs.nox (pss_cons (ps_if (pt_val (k_isinstanceT B.isinstance rfl (pa_cons (pv 1) (pa_cons (pe_tup (pa_cons (k_ty B.tuple rfl boot_tuple') (pa_cons (k_ty B.list rfl boot_list') pa_nil))) pa_nil)))) (pss_cons (ps_if (PW.pt (pw_or (pt_not (pt_val (k_isinstanceT B.isinstance rfl (pa_cons (pv 0) (pa_cons (pe_tup (pa_cons (k_ty B.tuple rfl boot_tuple') (pa_cons (k_ty B.list rfl boot_list') pa_nil))) pa_nil))))) (pw_or1 (pt_cmpR op_ne (k_isinstance B.isinstance rfl (pa_cons (pv 0) (pa_cons (k_ty B.list rfl boot_list') pa_nil))) (k_isinstance B.isinstance rfl (pa_cons (pv 1) (pa_cons (k_ty B.list rfl boot_list') pa_nil))) (nomark _))))) (pss_one (ps_ret pe_bl)) pss_nil)
      (pss_cons (ps_if (pt_cmpR op_ne (k_len B.len rfl (pa_cons (pv 0) pa_nil)) (k_len B.len rfl (pa_cons (pv 1) pa_nil)) (nomark _)) (pss_one (ps_ret pe_bl)) pss_nil)
      (pss_one (ps_ret (pe_cmpR (op_eqD hr.units) (pe_lc (own := [("_law_k", 2)]) (g := gName 2) rfl sc__law_alike.nd (pi_range1 (by rfl) B.range (pa_cons (k_len B.len rfl (pa_cons (pv 1) pa_nil)) pa_nil)) (blkOk_by (own := [("_law_k", 2)]) (N := ["_law_found", "_law_due", "_law_k"]) (sc := defScope (stm 39)) (by decide +kernel)) (fun _ _ _ _ _ => pg_name (i := 2) sc__law_alike.nd rfl (Or.inl rfl)) (fun _ _ _ _ _ => pts_one (pt_not (pt_val (k_call G__law_alike N__law_alike hr (Nat.le_refl _) rfl (pa_cons (pe_ix (ix_tup : IxR _ (rIxT K)) (pv 0) (pv 2) (fun _ _ => rfl)) (pa_cons (pe_ix (ix_tup : IxR _ (rIxT K)) (pv 1) (pv 2) (fun _ _ => rfl)) pa_nil)))))) (fun _ _ _ _ _ => (pv 2))) (pe_lst pa_nil) (nomark _)))))) pss_nil)
      (pss_cons (ps_if (PW.pt (pw_or (pt_cmpR op_isZ (pv 1) pe_non (nomark _)) (pw_or1 (pt_val (k_isinstance B.isinstance rfl (pa_cons (pv 1) (pa_cons (k_ty B.str rfl boot_str') pa_nil))))))) (pss_one (ps_ret (pe_and (pe_cmpR (op_eqD hr.units) (pv 0) (pv 1) (nomark _)) (pe_one (pe_cmpR op_eq (k_isinstance B.isinstance rfl (pa_cons (pv 0) (pa_cons (k_ty B.str rfl boot_str') pa_nil))) (k_isinstance B.isinstance rfl (pa_cons (pv 1) (pa_cons (k_ty B.str rfl boot_str') pa_nil))) (nomark _)))))) pss_nil)
      (pss_one (ps_ret (pe_and (k_isinstance B.isinstance rfl (pa_cons (pv 0) (pa_cons (k_ty B.int rfl boot_int') pa_nil))) (pe_and (pe_cmpR op_eq (k_isinstance B.isinstance rfl (pa_cons (pv 0) (pa_cons (k_ty B.bool rfl boot_bool') pa_nil))) (k_isinstance B.isinstance rfl (pa_cons (pv 1) (pa_cons (k_ty B.bool rfl boot_bool') pa_nil))) (nomark _)) (pe_one (pe_cmpR (op_eqD hr.units) (pv 0) (pv 1) (nomark _))))))))), pr_start h fun as c D r ok k => ?_⟩)
  obtain ⟨d, e, rfl, hf, sd, se, rfl⟩ := r
  have s1 : SeqAt.shaped d = true := sd.shaped
  have s2 : SeqAt.shaped e = true := se.shaped
  cases e with
  | tuple es =>
    have hf : (decide (es.length ≤ 50000) && es.all (fits n)) = true := hf
    rw [Bool.and_eq_true, decide_eq_true_eq, List.all_eq_true] at hf
    refine' q_guardT (b := true) (EvT.is ?g0 ?g0b) rfl ?nx0
    case g0 => exact et_B (ev_isSeq (ev_dat rfl) rfl)
    case g0b => rfl
    by_cases hd : isTup d = true
    · obtain ⟨ds, rfl⟩ : ∃ ds, d = .tuple ds := by cases d <;> first | exact ⟨_, rfl⟩ | cases hd
      refine' q_guardF (b := false) (EvT.is ?g1 ?g2) rfl ?nx1
      case g1 => exact et_or (et_not (et_B (ev_isSeq (ev_dat rfl) rfl))) fun _ => et_test (ev_neB (ev_isLst (ev_dat rfl) rfl) (ev_isLst (ev_dat rfl) rfl))
      case g2 => rfl
      refine' q_guard (et_test (ev_neI (ev_lenB (ev_dat rfl) (.inr rfl)) (ev_lenB (ev_dat rfl) (.inr rfl)))) (fun hb => st_ret ev_bl (k.eq ?y1 rfl)) fun hb => ?nx2
      case y1 =>
        rw [Bool.not_eq_true', decide_eq_false_iff_not] at hb
        show AR.f (.bool (alikeL (alikeN n) ds es)) = _
        rw [alike_ne _ _ _ (fun z => hb (by rw [z]))]
      rw [Bool.not_eq_false'] at hb
      have hlen : ds.length = es.length := by
        have := of_decide_eq_true hb
        omega
      refine' st_ret (et_noneEq (fun x => !alikeAt (alikeN n) ds es x) (evi_rng1 (ev_lenB (ev_dat rfl) (.inr rfl)) (by omega)) (by decide) (of_decide_eq_true rfl) (by rw [rangeR_len]; omega) (.of fun x hx => ?sh) fun x hx => ?el) (k.eq ?y2 rfl)
      case sh =>
        rw [rangeR_iv] at hx
        obtain ⟨i, _, rfl⟩ := List.mem_map.mp hx
        exact Sh.int i
      case el =>
        rw [rangeR_iv] at hx
        obtain ⟨i, hi, rfl⟩ := List.mem_map.mp hx
        rw [mem_iv] at hi
        have e : ((i.toNat : Nat) : Int) = i := by omega
        have h1 : i.toNat < ds.length := by omega
        have h2 : i.toNat < es.length := by omega
        have a1 : atI ds i = some (ds.getD i.toNat .none) := by
          rw [← e]
          refine atI_nat ?_
          rw [Int.toNat_natCast, List.getD_eq_getElem?_getD, List.getElem?_eq_getElem h1]
          rfl
        have a2 : atI es i = some (es.getD i.toNat .none) := by
          rw [← e]
          refine atI_nat ?_
          rw [Int.toNat_natCast, List.getD_eq_getElem?_getD, List.getElem?_eq_getElem h2]
          rfl
        exact et_not (et_B (ev_alike (eva_cons (ev_ixT (ds := ds) (ev_dat rfl) (ev_dat rfl) a1) (eva_cons (ev_ixT (ds := es) (ev_dat rfl) (ev_dat rfl) a2) eva_nil)) (hf.2 _ (getD_mem _ h2)) (sd.at (getD_mem _ h1)) (se.at (getD_mem _ h2))))
      case y2 =>
        show AR.f (.bool (alikeL (alikeN n) ds es)) = _
        rw [alike_rng _ _ _ hlen]
        simp only [Bool.not_not]
    · have nd : alikeN (n + 1) d (.tuple es) = false := by cases d <;> first | rfl | exact absurd rfl hd
      refine' q_guardT (b := true) (EvT.is ?g1 ?g2) rfl (st_ret ev_bl (k.eq (by rw [nd]) rfl))
      case g1 => exact et_or (et_not (et_B (ev_isSeq (ev_dat rfl) rfl))) fun _ => et_test (ev_neB (ev_isLst (ev_dat rfl) rfl) (ev_isLst (ev_dat rfl) rfl))
      case g2 => cases d <;> first | rfl | exact absurd rfl hd
  | list es => cases hf
  | dict es => cases hf
  | none =>
    repeat walk_at "k00g"
    refine' st_ret (Ev.is ?h ?e) k
    case h => exact ev_andV (ev_eqD (ev_dat rfl) (ev_dat rfl) rfl rfl s1 s2) fun _ => ev_eqB (ev_isStr (ev_dat rfl) rfl) (ev_isStr (ev_dat rfl) rfl)
    case e => rfl
  | str x =>
    repeat walk_at "k00g"
    refine' st_ret (Ev.is ?h ?e) k
    case h => exact ev_andV (ev_eqD (ev_dat rfl) (ev_dat rfl) rfl rfl s1 s2) fun _ => ev_eqB (ev_isStr (ev_dat rfl) rfl) (ev_isStr (ev_dat rfl) rfl)
    case e => rfl
  | int i =>
    repeat walk_at "k00g"
    refine' st_ret (Ev.is ?h ?e) k
    case h => exact ev_andV (ev_isInt (ev_dat rfl) rfl) fun _ => ev_andV (ev_eqB (ev_isBool (ev_dat rfl) rfl) (ev_isBool (ev_dat rfl) rfl)) fun _ => ev_eqD (ev_dat rfl) (ev_dat rfl) rfl rfl s1 s2
    case e => rfl
  | bool i =>
    repeat walk_at "k00g"
    refine' st_ret (Ev.is ?h ?e) k
    case h => exact ev_andV (ev_isInt (ev_dat rfl) rfl) fun _ => ev_andV (ev_eqB (ev_isBool (ev_dat rfl) rfl) (ev_isBool (ev_dat rfl) rfl)) fun _ => ev_eqD (ev_dat rfl) (ev_dat rfl) rfl rfl s1 s2
    case e => rfl
theorem ok__law_alike (F : FnP K "_law_alike" 39 f fd) (B : Bt mg) (N__law_alike : Kn K mg "_law_alike" ["_law_found", "_law_due"] f fd) : ∀ n : Nat, FnOk P w K mg base CX0 n f fd ["_law_found", "_law_due"] (Pr (relAlike n))
  | 0 => ⟨fun vs H Q E h => (by obtain ⟨_, _, ⟨d, e, _, h, _⟩, _⟩ := h; cases h), fun A outer s H args us vs Q E _ _ _ _ h => (by obtain ⟨_, _, ⟨d, e, _, h, _⟩, _⟩ := h; cases h)⟩
  | n + 1 => ok__law_alike_step F B N__law_alike (ok__law_alike F B N__law_alike n)
end
/-! like itself -/
theorem alikeL_self {al : PyData → PyData → Bool} : ∀ {ds : List PyData}, (∀ d ∈ ds, al d d = true) → alikeL al ds ds = true
  | [], _ => rfl
  | d :: ds, h => by
    show (al d d && alikeL al ds ds) = true
    rw [h d List.mem_cons_self, alikeL_self fun x hx => h x (List.mem_cons_of_mem _ hx)]
    rfl
theorem alikeN_self : ∀ {n : Nat} {d : PyData}, fits n d = true → alikeN n d d = true
  | 0, _, h => by cases h
  | n + 1, d, h => by
    cases d with
    | tuple es =>
      have hf : (decide (es.length ≤ 50000) && es.all (fits n)) = true := h
      rw [Bool.and_eq_true, List.all_eq_true] at hf
      exact alikeL_self fun x hx => alikeN_self (hf.2 x hx)
    | list es => cases h
    | dict es => cases h
    | none => rfl
    | str x =>
      show (PyData.eqv (.str x) (.str x) && decide (true = true)) = true
      simp [PyData.eqv]
    | int i =>
      show (true && (decide (false = false) && PyData.eqv (.int i) (.int i))) = true
      simp [PyData.eqv]
    | bool b =>
      show (true && (decide (true = true) && PyData.eqv (.bool b) (.bool b))) = true
      simp [PyData.eqv]
theorem fits_ints (n : Nat) (ns : List Int) : (ns.map PyData.int).all (fits (n + 1)) = true := by
  rw [List.all_eq_true]
  intro d hd
  obtain ⟨k, _, rfl⟩ := List.mem_map.mp hd
  rfl
theorem fits_cal {c : Cal} (h : c.ns.length ≤ 1000) (n : Nat) : fits (n + 2) c.d = true := by
  show (decide ((PyData.str c.w :: c.ns.map .int).length ≤ 50000) && (PyData.str c.w :: c.ns.map .int).all (fits (n + 1))) = true
  rw [List.all_cons, fits_ints]
  simp [fits]
  omega
theorem fits_sta {s : Sta} (h : ∀ ns, s = .seq ns → ns.length ≤ 1000) (n : Nat) : fits (n + 2) s.d = true := by
  cases s with
  | non => rfl
  | num k => rfl
  | seq ns =>
    have := h ns rfl
    show (decide ((ns.map PyData.int).length ≤ 50000) && (ns.map PyData.int).all (fits (n + 1))) = true
    rw [fits_ints, List.length_map]
    simp
    omega
/-- of what equals a call, what is like it -/
theorem alike_call {c : Cal} {d : PyData} {n : Nat} (h : PyData.eqv c.d d = true) : alikeN (n + 2) d c.d = plainD d := by
  have key : ∀ (ns : List Int) (r : List PyData), PyData.eqvAll (ns.map .int) r = true → alikeL (alikeN (n + 1)) r (ns.map .int) = r.all fun x => isInt x && !isBool x := by
    intro ns
    induction ns with
    | nil =>
      intro r h
      cases r with
      | nil => rfl
      | cons a t => cases h
    | cons k ns ih =>
      intro r h
      cases r with
      | nil => cases h
      | cons a t =>
        have h : (PyData.eqv (.int k) a && PyData.eqvAll (ns.map .int) t) = true := h
        rw [Bool.and_eq_true] at h
        show (alikeN (n + 1) a (.int k) && alikeL (alikeN (n + 1)) t (ns.map .int)) = ((isInt a && !isBool a) && t.all fun x => isInt x && !isBool x)
        rw [ih t h.2]
        congr 1
        have h1 := h.1
        cases a with
        | int j =>
          have e : k = j := by simpa [PyData.eqv] using h1
          subst e
          show (true && (decide (false = false) && PyData.eqv (.int k) (.int k))) = _
          simp [PyData.eqv, isInt, isBool]
        | bool b => rfl
        | _ => cases h1
  cases d with
  | tuple ds =>
    cases ds with
    | nil => cases h
    | cons x r =>
      have h : (PyData.eqv (.str c.w) x && PyData.eqvAll (c.ns.map .int) r) = true := h
      rw [Bool.and_eq_true] at h
      have h1 := h.1
      cases x with
      | str y =>
        have e : c.w = y := by simpa [PyData.eqv] using h1
        show (alikeN (n + 1) (.str y) (.str c.w) && alikeL (alikeN (n + 1)) r (c.ns.map .int)) = r.all fun x => isInt x && !isBool x
        rw [key _ _ h.2, e]
        show ((PyData.eqv (.str y) (.str y) && decide (true = true)) && _) = _
        simp [PyData.eqv]
      | _ => cases h1
  | _ => cases h
end K00

/-! Part N. -/
set_option Elab.async false
set_option linter.all false
set_option autoImplicit false
set_option maxRecDepth 100000
set_option maxHeartbeats 4000000
/-! The row of numbers that the law draws from. -/
namespace K00
open PySem PySem.Spec PyProof.Rows L2
local macro_rules | `(tactic| walk_at "k00a") => `(tactic| first
  | (with_reducible exact eva_nil)
  | ((with_reducible refine' eva_cons ?k1 ?k2); (case k1 => walk_at "k00e"); (case k2 => walk_at "k00a"))
  | ((with_reducible refine' eva_star ?k1 ?k2); (case k1 => walk_at "k00e"); (case k2 => walk_at "k00a")))
local macro_rules | `(tactic| walk_at "k00o") => `(tactic| first
  | (with_reducible exact evo_no)
  | ((with_reducible refine' evo_some ?k1); (case k1 => walk_at "k00e")))
local macro_rules | `(tactic| walk_at "k00e") => `(tactic| first
  | (with_reducible exact ev_int)
  | (with_reducible exact ev_str)
  | (with_reducible exact ev_bl)
  | (with_reducible exact ev_non)
  | ((with_reducible refine' ev_dat ?k1); (case k1 => rfl))
  | ((with_reducible refine' ev_own ?k1); (case k1 => rfl))
  | ((with_reducible refine' ev_argF ?k1 ?k2); (case k1 => rfl); (case k2 => rfl))
  | ((with_reducible refine' ev_arg ?k1); (case k1 => rfl))
  | ((with_reducible refine' ev_genF ?k1 ?k2); (case k1 => rfl); (case k2 => rfl))
  | ((with_reducible refine' ev_gen ?k1); (case k1 => rfl))
  | ((with_reducible refine' ev_raw ?k1); (case k1 => rfl))
  | ((with_reducible refine' ev_ixT ?k1 ?k2 ?k3); (case k1 => walk_at "k00e"); (case k2 => walk_at "k00e"); (case k3 => walk_at "k00i"))
  | ((with_reducible refine' ev_ixL ?k1 ?k2 ?k4 ?k3); (case k1 => walk_at "k00e"); (case k2 => walk_at "k00e"); (case k4 => first | exact Or.inl rfl | exact Or.inr rfl); (case k3 => walk_at "k00i"))
  | ((with_reducible refine' ev_isInt ?k1 ?k2); (case k1 => walk_at "k00e"); (case k2 => rfl))
  | ((with_reducible refine' ev_isBool ?k1 ?k2); (case k1 => walk_at "k00e"); (case k2 => rfl))
  | ((with_reducible refine' ev_isStr ?k1 ?k2); (case k1 => walk_at "k00e"); (case k2 => rfl))
  | ((with_reducible refine' ev_isTup ?k1 ?k2); (case k1 => walk_at "k00e"); (case k2 => rfl))
  | ((with_reducible refine' ev_isLst ?k1 ?k2); (case k1 => walk_at "k00e"); (case k2 => rfl))
  | ((with_reducible refine' ev_isSeq ?k1 ?k2); (case k1 => walk_at "k00e"); (case k2 => rfl))
  | ((with_reducible refine' ev_lenB ?k1 ?k2); (case k1 => walk_at "k00e"); (case k2 => first | exact Or.inl rfl | exact Or.inr rfl))
  | ((with_reducible refine' ev_int2 ?k1 ?k2); (case k1 => walk_at "k00e"); (case k2 => walk_at "k00e"))
  | ((with_reducible refine' ev_cmp2 ?k1 ?k2); (case k1 => walk_at "k00e"); (case k2 => walk_at "k00e"))
  | ((with_reducible refine' ev_intC ?k1 ?k2 ?k3); (case k1 => walk_at "k00e"); (case k2 => walk_at "k00e"); (case k3 => walk_at "k00c"))
  | ((with_reducible refine' ev_eqS ?k1 ?k2); (case k1 => walk_at "k00e"); (case k2 => walk_at "k00e"))
  | ((with_reducible refine' ev_eqI ?k1 ?k2); (case k1 => walk_at "k00e"); (case k2 => walk_at "k00e"))
  | ((with_reducible refine' ev_neI ?k1 ?k2); (case k1 => walk_at "k00e"); (case k2 => walk_at "k00e"))
  | ((with_reducible refine' ev_eqB ?k1 ?k2); (case k1 => walk_at "k00e"); (case k2 => walk_at "k00e"))
  | ((with_reducible refine' ev_neB ?k1 ?k2); (case k1 => walk_at "k00e"); (case k2 => walk_at "k00e"))
  | ((with_reducible refine' ev_eqD ?k1 ?k2 ?k3 ?k4 ?k5 ?k6); (case k1 => walk_at "k00e"); (case k2 => walk_at "k00e"); (case k3 => rfl); (case k4 => rfl); (case k5 => walk_at "k00s"); (case k6 => walk_at "k00s"))
  | ((with_reducible refine' ev_neD ?k1 ?k2 ?k3 ?k4 ?k5 ?k6); (case k1 => walk_at "k00e"); (case k2 => walk_at "k00e"); (case k3 => rfl); (case k4 => rfl); (case k5 => walk_at "k00s"); (case k6 => walk_at "k00s"))
  | ((with_reducible refine' ev_inD ?k1 ?k2 ?k3 ?k4 ?k5 ?k6); (case k1 => walk_at "k00e"); (case k2 => walk_at "k00e"); (case k3 => rfl); (case k4 => rfl); (case k5 => walk_at "k00s"); (case k6 => walk_at "k00s"))
  | ((with_reducible refine' ev_niD ?k1 ?k2 ?k3 ?k4 ?k5 ?k6); (case k1 => walk_at "k00e"); (case k2 => walk_at "k00e"); (case k3 => rfl); (case k4 => rfl); (case k5 => walk_at "k00s"); (case k6 => walk_at "k00s"))
  | ((with_reducible refine' ev_isNone ?k1 ?k2); (case k1 => walk_at "k00e"); (case k2 => rfl))
  | ((with_reducible refine' ev_notNone ?k1 ?k2); (case k1 => walk_at "k00e"); (case k2 => rfl))
  | ((with_reducible refine' ev_neg ?k1); (case k1 => walk_at "k00e"))
  | ((with_reducible refine' ev_tup ?k1 ?k2 ?k3); (case k1 => walk_at "k00a"); (case k2 => first | rfl | exact allF_app _ _); (case k3 => walk_at "k00l"))
  | ((with_reducible refine' ev_lst ?k1 ?k2 ?k3); (case k1 => walk_at "k00a"); (case k2 => first | rfl | exact allF_app _ _); (case k3 => walk_at "k00l"))
  | ((with_reducible refine' ev_slT ?k1 ?k2 ?k3); (case k1 => walk_at "k00e"); (case k2 => walk_at "k00o"); (case k3 => walk_at "k00o"))
  | ((with_reducible refine' ev_catT ?k1 ?k2 ?k3); (case k1 => walk_at "k00e"); (case k2 => walk_at "k00e"); (case k3 => walk_at "k00l"))
  | ((with_reducible refine' ev_cat ?k1 ?k2 ?k4 ?k5 ?k3); (case k1 => walk_at "k00e"); (case k2 => walk_at "k00e"); (case k4 => first | exact Or.inl rfl | exact Or.inr rfl); (case k5 => first | exact Or.inl rfl | exact Or.inr rfl); (case k3 => walk_at "k00l"))
  | ((with_reducible refine' ev_tupOf ?k1 ?k2); (case k1 => walk_at "k00e"); (case k2 => first | exact Or.inl rfl | exact Or.inr rfl))
  | ((with_reducible refine' ev_lstOf ?k1); (case k1 => walk_at "k00e"))
  | ((with_reducible refine' ev_intI ?k1); (case k1 => walk_at "k00e"))
  | ((with_reducible refine' ev_intB ?k1); (case k1 => walk_at "k00e"))
  | ((with_reducible refine' ev_and0 ?k1 ?k2); (case k1 => walk_at "k00e"); (case k2 => first | rfl | assumption))
  | ((with_reducible refine' ev_or1 ?k1 ?k2); (case k1 => walk_at "k00e"); (case k2 => first | rfl | assumption))
  | ((with_reducible refine' ev_ifT ?k1 ?k2 ?k3); (case k1 => walk_at "k00t"); (case k2 => first | rfl | assumption); (case k3 => walk_at "k00e"))
  | ((with_reducible refine' ev_ifF ?k1 ?k2 ?k3); (case k1 => walk_at "k00t"); (case k2 => first | rfl | assumption); (case k3 => walk_at "k00e"))
  | ((with_reducible refine' ev_andV ?k1 ?k2); (case k1 => walk_at "k00e"); (case k2 => intro hb; walk_at "k00e"))
  | ((with_reducible refine' ev_orV ?k1 ?k2); (case k1 => walk_at "k00e"); (case k2 => intro hb; walk_at "k00e"))
  | ((with_reducible refine' ev_notV ?k1); (case k1 => walk_at "k00e"))
  | ((with_reducible refine' ev_chain ?k1 ?k2 ?k3); (case k1 => walk_at "k00e"); (case k2 => walk_at "k00e"); (case k3 => walk_at "k00e"))
  | ((with_reducible refine' ev_inT ?k1 ?k2 ?k3 ?k4); (case k1 => walk_at "k00e"); (case k2 => walk_at "k00e"); (case k3 => walk_at "k00w"); (case k4 => rfl))
  | ((with_reducible refine' ev_inN ?k1 ?k2 ?k3 ?k4); (case k1 => walk_at "k00e"); (case k2 => walk_at "k00e"); (case k3 => walk_at "k00w"); (case k4 => rfl))
  | ((with_reducible refine' ev_inI ?k1 ?k2 ?k3); (case k1 => walk_at "k00e"); (case k2 => walk_at "k00e"); (case k3 => exact Or.inr (Or.inr rfl)))
  | ((with_reducible refine' ev_lcW ?k1 ?k2 ?k3 ?k4); (case k1 => walk_at "k00n"); (case k2 => decide); (case k3 => walk_at "k00x"); (case k4 => first | decide | exact of_decide_eq_true rfl))
  | walk_at "k00r"
  | (with_reducible exact ev_c))
local macro_rules | `(tactic| walk_at "k00k") => `(tactic| first
  | exact Coes.nil
  | ((refine' Coes.cons ?k1 ?k2); (case k1 => first | exact coe_rfl | exact coe_b rfl); (case k2 => walk_at "k00k")))
local macro_rules | `(tactic| walk_at "k00i") => `(tactic| first | rfl | assumption)
local macro_rules | `(tactic| walk_at "k00c") => `(tactic| first | trivial | decide | omega | assumption | exact Or.inl ⟨by omega, by omega⟩)
local macro_rules | `(tactic| walk_at "k00l") => `(tactic| first | decide | (simp; done) | (simp; omega) | omega | assumption | (simp [rangeR_len2, fzs]; done) | (simp [rangeR_len2, fzs]; omega))
local macro_rules | `(tactic| walk_at "k00s") => `(tactic| first | rfl | decide +kernel | assumption | exact Sh.shaped (by assumption))
local macro_rules | `(tactic| walk_at "k00t") => `(tactic| first
  | ((with_reducible refine' et_test ?k1); (case k1 => walk_at "k00e"))
  | ((with_reducible refine' et_B ?k1); (case k1 => walk_at "k00e"))
  | ((with_reducible refine' et_not ?k1); (case k1 => walk_at "k00t"))
  | ((with_reducible refine' et_and0 ?k1 ?k2); (case k1 => walk_at "k00t"); (case k2 => first | rfl | assumption))
  | ((with_reducible refine' et_or1 ?k1 ?k2); (case k1 => walk_at "k00t"); (case k2 => first | rfl | assumption))
  | ((with_reducible refine' et_and ?k1 ?k2); (case k1 => walk_at "k00t"); (case k2 => intro hb; walk_at "k00t"))
  | ((with_reducible refine' et_or ?k1 ?k2); (case k1 => walk_at "k00t"); (case k2 => intro hb; walk_at "k00t"))
  | (with_reducible exact et_yes))

local macro_rules | `(tactic| walk_at "k00n") => `(tactic| first
  | ((with_reducible refine' evi_rng1 ?k1 ?k2); (case k1 => walk_at "k00e"); (case k2 => walk_at "k00y"))
  | ((with_reducible refine' evi_rng2 ?k1 ?k2 ?k3); (case k1 => walk_at "k00e"); (case k2 => walk_at "k00e"); (case k3 => walk_at "k00y"))
  | ((with_reducible refine' evi_tup ?k1); (case k1 => walk_at "k00e"))
  | ((with_reducible refine' evi_lst ?k1 ?k2); (case k1 => walk_at "k00e"); (case k2 => first | exact Or.inl rfl | exact Or.inr rfl)))
local macro_rules | `(tactic| walk_at "k00y") => `(tactic| first | decide | omega | (simp; omega) | assumption)
local macro_rules | `(tactic| walk_at "k00x") => `(tactic| first | decide | assumption | (rw [rangeR_iv, List.length_map]; unfold iv; rw [List.length_map, List.length_range]; omega))
local macro_rules | `(tactic| walk_at "k00w") => `(tactic| first | exact Or.inr (Or.inr rfl) | exact Or.inl rfl | exact Or.inr (Or.inl rfl))
local macro_rules | `(tactic| walk_at "k00b") => `(tactic| first | decide +kernel | rfl | assumption | (simp; done))
local macro_rules | `(tactic| walk_at "k00g") => `(tactic| first
  | ((with_reducible refine' q_asgF ?k1 ?k2); (case k1 => walk_at "k00e"))
  | ((with_reducible refine' q_guardF ?k1 ?k2 ?k3); (case k1 => walk_at "k00t"); (case k2 => walk_at "k00b"))
  | ((with_reducible refine' q_guardT ?k1 ?k2 ?k3); (case k1 => walk_at "k00t"); (case k2 => walk_at "k00b"))
  | ((with_reducible refine' q_two ?k1 ?k2); (case k1 => walk_at "k00e"))
  | ((with_reducible refine' q_par ?k1 ?k2); (case k1 => walk_at "k00a"))
  | ((with_reducible refine' q_par3 ?k1 ?k2); (case k1 => walk_at "k00a")))
local macro_rules | `(tactic| walk_at "k00f") => `(tactic| ((refine' Ev.is ?k1 ?k2); (case k1 => walk_at "k00e"); (case k2 => rfl)))
local macro_rules | `(tactic| walk_at "k00r") => `(tactic| first
  | ((with_reducible refine' ev_small ?k1 ?k2); (case k1 => walk_at "k00a"); (case k2 => rfl))
  | ((with_reducible refine' ev_bank ?k1); (case k1 => walk_at "k00a"))
  | ((with_reducible refine' ev_table ?k1); (case k1 => walk_at "k00a")))
/-- the script, in the heap (L) or not -/
def Scr (K : PySem.W.Frag) (ns : List Int) (a : Addr) (L : Prop) (H : Hp) : Prop := (L ∧ Rd H a (.lst (ns.map V.int))) ∨ (¬ L ∧ ∀ H', SqL K H' a (ns.map V.int))
theorem Scr.sq {K : PySem.W.Frag} {ns : List Int} {a : Addr} {L : Prop} {H : Hp} (h : Scr K ns a L H) : SqL K H a (ns.map V.int) := by
  rcases h with ⟨_, h⟩ | ⟨_, h⟩
  · exact .inl h
  · exact h H
def RowAt (a r : Addr) (H : Hp) : Prop := ∃ i s m : Int, H r = some (.lst [.ref a, .int i, .int s, .int m]) ∧ 0 ≤ i
theorem Rd.upd {H : Hp} {a p : Addr} {u o : HO} (h : Rd H a u) (ne : a ≠ p) : Rd (upd H p o) a u := by
  unfold Rd at h ⊢
  rw [upd_ne ne]
  exact h
theorem tabs_upd {T : List (Addr × Str)} {H : Hp} {p : Addr} {xs ys : List V} (t : LamX.Tabs T H) (hp : H p = some (.lst xs)) : LamX.Tabs T (upd H p (.lst ys)) := fun q hq => by
  obtain ⟨ps, h1, h2, h3⟩ := t q hq
  refine ⟨ps, by rw [upd_ne (ne_of h1 hp (by intro y; cases y))]; exact h1, h2, fun pos cv hc => ?_⟩
  obtain ⟨c, e1, e2⟩ := h3 pos cv hc
  refine ⟨c, e1, ?_⟩
  rw [upd_ne (ne_of e2 hp (by intro y; unfold LamX.CodeO at y; cases y))]
  exact e2
/-- the world of the law -/
def Wl (K : PySem.W.Frag) (ns : List Int) (a r : Addr) (L : Prop) (T : List (Addr × Str)) : Wd where
  R := fun b => b = r ∨ (b = a ∧ L)
  J := fun H => RowAt a r H ∧ Scr K ns a L H ∧ LamX.Tabs T H
  kx := fun _ _ => True
  fr := fun H p => ¬ (p = r ∨ (p = a ∧ L)) ∧ (∀ xs, H p ≠ some (.lst xs)) ∧ ∀ xs, H p ≠ some (.tup xs)
  st := fun {H H'} j e => by
    obtain ⟨⟨i, s, m, h, hi⟩, sc, t⟩ := j
    refine ⟨⟨i, s, m, e _ _ h, hi⟩, ?_, t.ext e⟩
    rcases sc with ⟨l, q⟩ | ⟨l, q⟩
    · refine .inl ⟨l, ?_⟩
      rcases q with q | ⟨o, q⟩
      · exact .inl (e _ _ q)
      · exact .inr ⟨o, e _ _ q⟩
    · exact .inr ⟨l, q⟩
  kxr := trivial
  kxt := fun _ _ => trivial
  kxs := fun _ => trivial
  frn := fun {H p} j h => by
    obtain ⟨⟨i, s, m, hr, hi⟩, sc, t⟩ := j
    refine ⟨fun z => ?_, fun xs e => (by rw [h] at e; cases e), fun xs e => (by rw [h] at e; cases e)⟩
    rcases z with rfl | ⟨rfl, l⟩
    · rw [h] at hr
      cases hr
    · rcases sc with ⟨_, q | ⟨o, q⟩⟩ | ⟨l', _⟩
      · rw [h] at q
        cases q
      · rw [h] at q
        cases q
      · exact l' l
  frb := fun {H H' p} k _ f => by
    refine ⟨f.1, fun xs e => f.2.1 xs (k.lst e f.1), fun xs e => f.2.2 xs (k.tups _ _ e)⟩
  frR := fun f => f.1
  frl := fun f e => f.2.1 _ e
  frt := fun f e => f.2.2 _ e
  frk := fun _ _ _ => trivial
  wr := fun {H1 H p xs ys} f j hp => by
    obtain ⟨⟨i, s, m, hr, hi⟩, sc, t⟩ := j
    have n1 : r ≠ p := fun z => f.1 (.inl z.symm)
    refine ⟨⟨i, s, m, by rw [upd_ne n1]; exact hr, hi⟩, ?_, tabs_upd t hp⟩
    rcases sc with ⟨l, q⟩ | ⟨l, q⟩
    · exact .inl ⟨l, Rd.upd q fun z => f.1 (.inr ⟨z.symm, l⟩)⟩
    · exact .inr ⟨l, q⟩
section
variable {K : PySem.W.Frag} {ns : List Int} {a r : Addr} {L : Prop} {T : List (Addr × Str)} {H : Hp}
theorem nx_row (j : (Wl K ns a r L T).J H) {i s m : Int} (hi : 0 ≤ i) : Nx (Wl K ns a r L T) H (upd H r (.lst [.ref a, .int i, .int s, .int m])) := by
  obtain ⟨⟨i0, s0, m0, hr, _⟩, sc, t⟩ := j
  refine ⟨fun b o h c => ?_, ⟨⟨i, s, m, upd_same, hi⟩, ?_, tabs_upd t hr⟩, trivial⟩
  · have ne : b ≠ r := fun z => by
      rcases c with ⟨n, _⟩ | ⟨xs, rfl⟩
      · exact n (.inl z)
      · rw [z, hr] at h
        cases h
    rw [upd_ne ne]
    exact h
  · rcases sc with ⟨l, q⟩ | ⟨l, q⟩
    · refine .inl ⟨l, Rd.upd q fun z => ?_⟩
      subst z
      rcases q with q | ⟨o, q⟩
      · rw [hr] at q
        cases ns with
        | nil => cases q
        | cons n ns => cases q
      · rw [hr] at q
        cases q
    · exact .inr ⟨l, q⟩
end
/-! readings that change nothing -/
def Pu (te : TE) (σ : L2.St) (H : Hp) (v : V) : Prop := ∀ Q : VK, Q v H → te σ H Q
section
variable {K : PySem.W.Frag} {σ : L2.St} {H : Hp} {ta tb : TE} {i j : Int}
theorem pu_c {v : V} : Pu (tC v) σ H v := fun Q q => q
theorem pu_v {n : Nat} {v : V} (h : σ[n]? = some (some v)) : Pu (tVar n) σ H v := fun Q q => ⟨v, h, q⟩
theorem pu_0 {g : Int → Int → V} (h1 : Pu ta σ H (.int i)) (h2 : Pu tb σ H (.int j)) : Pu (tOp (rI0 g) ta tb) σ H (g i j) := fun Q q => h1 _ (h2 _ ⟨i, j, rfl, rfl, q⟩)
theorem pu_b {g : Int → Int → Bool} (h1 : Pu ta σ H (.int i)) (h2 : Pu tb σ H (.int j)) : Pu (tOp (rI0 fun i j => .bl (g i j)) ta tb) σ H (.bl (g i j)) := pu_0 h1 h2
theorem pu_C {C : Int → Int → Prop} {g : Int → Int → V} (h1 : Pu ta σ H (.int i)) (h2 : Pu tb σ H (.int j)) (c : C i j) : Pu (tOp (rI C g) ta tb) σ H (g i j) := fun Q q => h1 _ (h2 _ ⟨i, j, rfl, rfl, c, q⟩)
theorem pu_mod (h1 : Pu ta σ H (.int i)) (h2 : Pu tb σ H (.int j)) (c : 0 < j) : Pu (tOp (rI (fun _ j => 0 < j) fun i j => .int (i % j)) ta tb) σ H (.int (i % j)) := pu_C h1 h2 c
theorem pu_div (h1 : Pu ta σ H (.int i)) (h2 : Pu tb σ H (.int j)) (c : 0 < j ∧ j < 1073741824) : Pu (tOp (rI CDiv fun i j => .int (i / j)) ta tb) σ H (.int (i / j)) := pu_C h1 h2 c
theorem pu_mul (h1 : Pu ta σ H (.int i)) (h2 : Pu tb σ H (.int j)) (c : -(2 ^ 64) < j ∧ j < 2 ^ 64) : Pu (tOp (rI CMul fun i j => .int (i * j)) ta tb) σ H (.int (i * j)) := pu_C h1 h2 (.inr c)
theorem pu_int (h1 : Pu ta σ H (.int i)) : Pu (tCB rIntZ (tCons ta tNil)) σ H (.int i) := fun Q q => h1 _ (.inl ⟨i, rfl, q⟩)
theorem pu_len {p : Addr} {xs : List V} (h1 : Pu ta σ H (.ref p)) (s : SqL K H p xs) : Pu (tCB (rLenZ K) (tCons ta tNil)) σ H (.int xs.length) := fun Q q => h1 _ ⟨p, xs, rfl, .inl s, q⟩
theorem pu_ix {p : Addr} {xs : List V} {v : V} (h1 : Pu ta σ H (.ref p)) (h2 : Pu tb σ H (.int i)) (s : SqL K H p xs) (h : atI xs i = some v) : Pu (tOp (rIxL K) ta tb) σ H v := fun Q q => h1 _ (h2 _ ⟨p, xs, i, v, rfl, rfl, s, h, q⟩)
theorem pu_if {tu tw : TS} {D : Ends} {b : Bool} (h : Pu ta σ H (.bl b)) (h1 : b = true → tu D σ H) (h2 : b = false → tw D σ H) : tIfS (tTest ta) tu tw D σ H := h _ ⟨b, rfl, by
  cases b with
  | true =>
    rw [if_pos rfl]
    exact h1 rfl
  | false =>
    rw [if_neg (by decide)]
    exact h2 rfl⟩
theorem pu_set {D : Ends} {p : Addr} {xs : List V} {v : V} {m : Nat} {n : Nat} (h : Pu ta σ H v) (h0 : σ[n]? = some (some (.ref p))) (hi : Pu tb σ H (.int j)) (hp : H p = some (.lst xs)) (hm : ixN xs.length j = some m) (k : D.nx σ (upd H p (.lst (xs.set m v)))) :
    tAsg ta (gSub (tVar n) tb rSetL) D σ H := h _ ⟨_, h0, hi _ ⟨p, xs, j, m, rfl, rfl, hp, hm, k⟩⟩
end
theorem pu_asg {te : TE} {σ : L2.St} {H : Hp} {v : V} {i : Nat} {tz : TS} {D : Ends} (h : Pu te σ H v) (k : tz D (σ.set i (some v)) H) : tSeq (tAsg te (gName i)) tz D σ H := h _ k
theorem pu_seq {te : TE} {g : TG} {σ : L2.St} {H : Hp} {tz : TS} {D : Ends} (h : tAsg te g { D with nx := tz D } σ H) : tSeq (tAsg te g) tz D σ H := h
theorem pu_ret {te : TE} {σ : L2.St} {H : Hp} {v : V} {D : Ends} (h : Pu te σ H v) (k : D.rt v H) : tRet te D σ H := h _ k
theorem pu_ifs {ta : TE} {σ : L2.St} {H : Hp} {tu tw tz : TS} {D : Ends} {b : Bool} (h : Pu ta σ H (.bl b)) (h1 : b = true → tu { D with nx := tz D } σ H) (h2 : b = false → tw { D with nx := tz D } σ H) : tSeq (tIfS (tTest ta) tu tw) tz D σ H := pu_if h h1 h2
def spTaken (W : Wd) (r : Addr) : Sp := fun vs H Q _ => ∃ n : Int, vs = [.ref r, .int n] ∧ (0 < n ∧ n < 1000000) ∧ W.J H ∧ ∀ k H', 0 ≤ k → k < n → Nx W H H' → Q (.int k) H'
section
variable {P : Program} {w : World} {K : PySem.W.Frag} {mg : Str → Option Value} {base : Heap} {f : Addr} {fd : FuncData}
theorem sc__law_taken : FnScope ["_law_row", "_law_many", "_law_cell", "_law_found"] ["_law_row", "_law_many"] (defScope (stm 37)) := ⟨rfl, rfl, rfl, by decide +kernel, rfl, by decide +kernel, by decide +kernel⟩
theorem ok__law_taken {ns : List Int} {a r : Addr} {L : Prop} {T : List (Addr × Str)} (F : FnP K "_law_taken" 37 f fd) (B : Bt mg) : FnOk P w K mg base CX0 1 f fd ["_law_row", "_law_many"] (spTaken (Wl K ns a r L T) r) := by
  refine F.ok sc__law_taken (fun vs H Q E h => by obtain ⟨n, rfl, _⟩ := h; rfl) (fun cdv A outer s H vs Q E hr h => ⟨_, PSs.nox (pss_cons (ps_if (pt_cmpR op_gt (pe_ix ix_list (pv 0) pe_int (fun _ _ => rfl)) pe_int (nomark _)) (pss_cons (ps_set (i := 3) sc__law_taken.nd rfl (Or.inl rfl) (pe_op op_mod (k_int B.int rfl (pa_cons (pe_ix ix_list (pv 0) pe_int (fun _ _ => rfl)) pa_nil)) (pv 1)))
      (pss_cons (ps_asg (pe_op op_fdiv (pe_ix ix_list (pv 0) pe_int (fun _ _ => rfl)) (pv 1)) (pg_sub (pv 0) pe_int set_list))
      (pss_one (ps_ret (pv 3))))) pss_nil)
      (pss_cons (ps_asg (pe_op op_add (pe_ix ix_list (pv 0) pe_int (fun _ _ => rfl)) pe_int) (pg_sub (pv 0) pe_int set_list))
      (pss_cons (ps_if (pt_cmpR op_gt (pe_ix ix_list (pv 0) pe_int (fun _ _ => rfl)) (k_len B.len rfl (pa_cons (pe_ix ix_list (pv 0) pe_int (fun _ _ => rfl)) pa_nil)) (nomark _)) (pss_cons (ps_asg (pe_op op_mod (k_int B.int rfl (pa_cons (pe_op op_add (pe_op op_mul (pe_ix ix_list (pv 0) pe_int (fun _ _ => rfl)) pe_int) pe_int) pa_nil)) pe_int) (pg_sub (pv 0) pe_int set_list))
      (pss_one (ps_ret (pe_op op_mod (k_int B.int rfl (pa_cons (pe_op op_fdiv (pe_ix ix_list (pv 0) pe_int (fun _ _ => rfl)) pe_int) pa_nil)) (pv 1))))) pss_nil)
      (pss_cons (ps_set (i := 2) sc__law_taken.nd rfl (Or.inl rfl) (pe_ix ix_list (pe_ix ix_list (pv 0) pe_int (fun _ _ => rfl)) (pe_op op_sub (pe_ix ix_list (pv 0) pe_int (fun _ _ => rfl)) pe_int) (fun _ _ => rfl)))
      (pss_cons (ps_asg (pe_op op_mod (k_int B.int rfl (pa_cons (pe_op op_add (pe_op op_add (pe_op op_mul (pe_ix ix_list (pv 0) pe_int (fun _ _ => rfl)) pe_int) (pv 2)) pe_int) pa_nil)) pe_int) (pg_sub (pv 0) pe_int set_list))
      (pss_cons (ps_if (pt_cmpR op_ge (pv 2) (pe_op op_pow pe_int pe_int) (nomark _)) (pss_one (ps_asg (pe_op op_fdiv (pv 2) (pv 1)) (pg_sub (pv 0) pe_int set_list))) pss_nil)
      (pss_one (ps_ret (pe_op op_mod (k_int B.int rfl (pa_cons (pv 2) pa_nil)) (pv 1)))))))))), ?_⟩)
  obtain ⟨n, rfl, ⟨hn, hn2⟩, j, k⟩ := h
  obtain ⟨⟨i, sd, m, hrow, hi⟩, sc, tb⟩ := id j
  have cd : CDiv m n := ⟨hn, by omega⟩
  have mod : ∀ x : Int, 0 ≤ x % n ∧ x % n < n := fun x => ⟨Int.emod_nonneg _ (by omega), Int.emod_lt_of_pos _ hn⟩
  have row : ∀ {σ : L2.St} {H : Hp} {x y z : Int} {j : Int} {v : V}, σ[0]? = some (some (.ref r)) → H r = some (.lst [.ref a, .int x, .int y, .int z]) → atI [V.ref a, .int x, .int y, .int z] j = some v → Pu (tOp (rIxL K) (tVar 0) (tC (.int j))) σ H v := fun h0 hr e => pu_ix (pu_v h0) pu_c (SqL.of hr) e
  refine pu_ifs (pu_b (row rfl hrow rfl) pu_c) (fun _ => ?_) fun _ => ?_
  · refine pu_asg (pu_mod (pu_int (row rfl hrow rfl)) (pu_v rfl) hn) ?_
    refine pu_seq (pu_set (pu_div (row rfl hrow rfl) (pu_v rfl) cd) rfl pu_c hrow rfl ?_)
    exact pu_ret (pu_v rfl) (k _ _ (mod m).1 (mod m).2 (nx_row j hi))
  · refine pu_seq (pu_set (pu_0 (row rfl hrow rfl) pu_c) rfl pu_c hrow rfl ?_)
    have j1 := nx_row (m := m) (s := sd) j (i := i + 1) (by omega)
    have hrow1 : upd H r (.lst [.ref a, .int (i + 1), .int sd, .int m]) r = some (.lst [.ref a, .int (i + 1), .int sd, .int m]) := upd_same
    have sq := (j1.2.2.1).sq
    refine pu_ifs (pu_b (row rfl hrow1 rfl) (pu_len (row rfl hrow1 rfl) sq)) (fun _ => ?_) fun hb => ?_
    · refine pu_seq (pu_set (pu_mod (pu_int (pu_0 (pu_mul (row rfl hrow1 rfl) pu_c ⟨by decide, by decide⟩) pu_c)) pu_c (by decide)) rfl pu_c hrow1 rfl ?_)
      refine pu_ret (pu_mod (pu_int (pu_div (row rfl upd_same rfl) pu_c ⟨by decide, by decide⟩)) (pu_v rfl) hn) ?_
      exact k _ _ (mod _).1 (mod _).2 (j1.trans (nx_row j1.2 (i := i + 1) (by omega)))
    · have hlt : i + 1 ≤ (ns.length : Int) := by
        have := of_decide_eq_false hb
        rw [List.length_map] at this
        omega
      obtain ⟨c, hc⟩ : ∃ c, atI (ns.map V.int) (i + 1 - 1) = some (.int c) := by
        have e : i + 1 - 1 = ((i.toNat : Nat) : Int) := by omega
        have h1 : i.toNat < ns.length := by omega
        refine ⟨ns[i.toNat], ?_⟩
        rw [e]
        refine atI_nat ?_
        rw [List.getElem?_map, List.getElem?_eq_getElem h1]
        rfl
      refine pu_asg (pu_ix (row rfl hrow1 rfl) (pu_0 (row rfl hrow1 rfl) pu_c) sq hc) ?_
      refine pu_seq (pu_set (pu_mod (pu_int (pu_0 (pu_0 (pu_mul (row rfl hrow1 rfl) pu_c ⟨by decide, by decide⟩) (pu_v rfl)) pu_c)) pu_c (by decide)) rfl pu_c hrow1 rfl ?_)
      have j2 := nx_row (m := m) (s := (sd * 48271 + c + 11) % 2147483647) j1.2 (i := i + 1) (by omega)
      refine pu_ifs (pu_b (pu_v rfl) (pu_C pu_c pu_c ⟨by decide, by decide, by decide⟩)) (fun _ => ?_) fun _ => ?_
      · refine pu_set (pu_div (pu_v rfl) (pu_v rfl) ⟨hn, by omega⟩) rfl pu_c upd_same rfl ?_
        refine pu_ret (pu_mod (pu_int (pu_v rfl)) (pu_v rfl) hn) ?_
        exact k _ _ (mod _).1 (mod _).2 ((j1.trans j2).trans (nx_row j2.2 (i := i + 1) (by omega)))
      · refine pu_ret (pu_mod (pu_int (pu_v rfl)) (pu_v rfl) hn) ?_
        exact k _ _ (mod _).1 (mod _).2 (j1.trans j2)
end
end K00

/-! Part O. -/
set_option Elab.async false
set_option linter.all false
set_option autoImplicit false
set_option maxRecDepth 100000
set_option maxHeartbeats 4000000
/-! What the law draws. -/
namespace K00
open PySem PySem.Spec PyProof.Rows L2
local macro_rules | `(tactic| walk_at "k00a") => `(tactic| first
  | (with_reducible exact eva_nil)
  | ((with_reducible refine' eva_cons ?k1 ?k2); (case k1 => walk_at "k00e"); (case k2 => walk_at "k00a"))
  | ((with_reducible refine' eva_star ?k1 ?k2); (case k1 => walk_at "k00e"); (case k2 => walk_at "k00a")))
local macro_rules | `(tactic| walk_at "k00o") => `(tactic| first
  | (with_reducible exact evo_no)
  | ((with_reducible refine' evo_some ?k1); (case k1 => walk_at "k00e")))
local macro_rules | `(tactic| walk_at "k00e") => `(tactic| first
  | (with_reducible exact ev_int)
  | (with_reducible exact ev_str)
  | (with_reducible exact ev_bl)
  | (with_reducible exact ev_non)
  | ((with_reducible refine' ev_dat ?k1); (case k1 => rfl))
  | ((with_reducible refine' ev_own ?k1); (case k1 => rfl))
  | ((with_reducible refine' ev_argF ?k1 ?k2); (case k1 => rfl); (case k2 => rfl))
  | ((with_reducible refine' ev_arg ?k1); (case k1 => rfl))
  | ((with_reducible refine' ev_genF ?k1 ?k2); (case k1 => rfl); (case k2 => rfl))
  | ((with_reducible refine' ev_gen ?k1); (case k1 => rfl))
  | ((with_reducible refine' ev_raw ?k1); (case k1 => rfl))
  | ((with_reducible refine' ev_ixT ?k1 ?k2 ?k3); (case k1 => walk_at "k00e"); (case k2 => walk_at "k00e"); (case k3 => walk_at "k00i"))
  | ((with_reducible refine' ev_ixL ?k1 ?k2 ?k4 ?k3); (case k1 => walk_at "k00e"); (case k2 => walk_at "k00e"); (case k4 => first | exact Or.inl rfl | exact Or.inr rfl); (case k3 => walk_at "k00i"))
  | ((with_reducible refine' ev_isInt ?k1 ?k2); (case k1 => walk_at "k00e"); (case k2 => rfl))
  | ((with_reducible refine' ev_isBool ?k1 ?k2); (case k1 => walk_at "k00e"); (case k2 => rfl))
  | ((with_reducible refine' ev_isStr ?k1 ?k2); (case k1 => walk_at "k00e"); (case k2 => rfl))
  | ((with_reducible refine' ev_isTup ?k1 ?k2); (case k1 => walk_at "k00e"); (case k2 => rfl))
  | ((with_reducible refine' ev_isLst ?k1 ?k2); (case k1 => walk_at "k00e"); (case k2 => rfl))
  | ((with_reducible refine' ev_isSeq ?k1 ?k2); (case k1 => walk_at "k00e"); (case k2 => rfl))
  | ((with_reducible refine' ev_lenB ?k1 ?k2); (case k1 => walk_at "k00e"); (case k2 => first | exact Or.inl rfl | exact Or.inr rfl))
  | ((with_reducible refine' ev_int2 ?k1 ?k2); (case k1 => walk_at "k00e"); (case k2 => walk_at "k00e"))
  | ((with_reducible refine' ev_cmp2 ?k1 ?k2); (case k1 => walk_at "k00e"); (case k2 => walk_at "k00e"))
  | ((with_reducible refine' ev_intC ?k1 ?k2 ?k3); (case k1 => walk_at "k00e"); (case k2 => walk_at "k00e"); (case k3 => walk_at "k00c"))
  | ((with_reducible refine' ev_eqS ?k1 ?k2); (case k1 => walk_at "k00e"); (case k2 => walk_at "k00e"))
  | ((with_reducible refine' ev_eqI ?k1 ?k2); (case k1 => walk_at "k00e"); (case k2 => walk_at "k00e"))
  | ((with_reducible refine' ev_neI ?k1 ?k2); (case k1 => walk_at "k00e"); (case k2 => walk_at "k00e"))
  | ((with_reducible refine' ev_eqB ?k1 ?k2); (case k1 => walk_at "k00e"); (case k2 => walk_at "k00e"))
  | ((with_reducible refine' ev_neB ?k1 ?k2); (case k1 => walk_at "k00e"); (case k2 => walk_at "k00e"))
  | ((with_reducible refine' ev_eqD ?k1 ?k2 ?k3 ?k4 ?k5 ?k6); (case k1 => walk_at "k00e"); (case k2 => walk_at "k00e"); (case k3 => rfl); (case k4 => rfl); (case k5 => walk_at "k00s"); (case k6 => walk_at "k00s"))
  | ((with_reducible refine' ev_neD ?k1 ?k2 ?k3 ?k4 ?k5 ?k6); (case k1 => walk_at "k00e"); (case k2 => walk_at "k00e"); (case k3 => rfl); (case k4 => rfl); (case k5 => walk_at "k00s"); (case k6 => walk_at "k00s"))
  | ((with_reducible refine' ev_inD ?k1 ?k2 ?k3 ?k4 ?k5 ?k6); (case k1 => walk_at "k00e"); (case k2 => walk_at "k00e"); (case k3 => rfl); (case k4 => rfl); (case k5 => walk_at "k00s"); (case k6 => walk_at "k00s"))
  | ((with_reducible refine' ev_niD ?k1 ?k2 ?k3 ?k4 ?k5 ?k6); (case k1 => walk_at "k00e"); (case k2 => walk_at "k00e"); (case k3 => rfl); (case k4 => rfl); (case k5 => walk_at "k00s"); (case k6 => walk_at "k00s"))
  | ((with_reducible refine' ev_isNone ?k1 ?k2); (case k1 => walk_at "k00e"); (case k2 => rfl))
  | ((with_reducible refine' ev_notNone ?k1 ?k2); (case k1 => walk_at "k00e"); (case k2 => rfl))
  | ((with_reducible refine' ev_neg ?k1); (case k1 => walk_at "k00e"))
  | ((with_reducible refine' ev_tup ?k1 ?k2 ?k3); (case k1 => walk_at "k00a"); (case k2 => first | rfl | exact allF_app _ _); (case k3 => walk_at "k00l"))
  | ((with_reducible refine' ev_lst ?k1 ?k2 ?k3); (case k1 => walk_at "k00a"); (case k2 => first | rfl | exact allF_app _ _); (case k3 => walk_at "k00l"))
  | ((with_reducible refine' ev_slT ?k1 ?k2 ?k3); (case k1 => walk_at "k00e"); (case k2 => walk_at "k00o"); (case k3 => walk_at "k00o"))
  | ((with_reducible refine' ev_catT ?k1 ?k2 ?k3); (case k1 => walk_at "k00e"); (case k2 => walk_at "k00e"); (case k3 => walk_at "k00l"))
  | ((with_reducible refine' ev_cat ?k1 ?k2 ?k4 ?k5 ?k3); (case k1 => walk_at "k00e"); (case k2 => walk_at "k00e"); (case k4 => first | exact Or.inl rfl | exact Or.inr rfl); (case k5 => first | exact Or.inl rfl | exact Or.inr rfl); (case k3 => walk_at "k00l"))
  | ((with_reducible refine' ev_tupOf ?k1 ?k2); (case k1 => walk_at "k00e"); (case k2 => first | exact Or.inl rfl | exact Or.inr rfl))
  | ((with_reducible refine' ev_lstOf ?k1); (case k1 => walk_at "k00e"))
  | ((with_reducible refine' ev_intI ?k1); (case k1 => walk_at "k00e"))
  | ((with_reducible refine' ev_intB ?k1); (case k1 => walk_at "k00e"))
  | ((with_reducible refine' ev_and0 ?k1 ?k2); (case k1 => walk_at "k00e"); (case k2 => first | rfl | assumption))
  | ((with_reducible refine' ev_or1 ?k1 ?k2); (case k1 => walk_at "k00e"); (case k2 => first | rfl | assumption))
  | ((with_reducible refine' ev_ifT ?k1 ?k2 ?k3); (case k1 => walk_at "k00t"); (case k2 => first | rfl | assumption); (case k3 => walk_at "k00e"))
  | ((with_reducible refine' ev_ifF ?k1 ?k2 ?k3); (case k1 => walk_at "k00t"); (case k2 => first | rfl | assumption); (case k3 => walk_at "k00e"))
  | ((with_reducible refine' ev_andV ?k1 ?k2); (case k1 => walk_at "k00e"); (case k2 => intro hb; walk_at "k00e"))
  | ((with_reducible refine' ev_orV ?k1 ?k2); (case k1 => walk_at "k00e"); (case k2 => intro hb; walk_at "k00e"))
  | ((with_reducible refine' ev_notV ?k1); (case k1 => walk_at "k00e"))
  | ((with_reducible refine' ev_chain ?k1 ?k2 ?k3); (case k1 => walk_at "k00e"); (case k2 => walk_at "k00e"); (case k3 => walk_at "k00e"))
  | ((with_reducible refine' ev_inT ?k1 ?k2 ?k3 ?k4); (case k1 => walk_at "k00e"); (case k2 => walk_at "k00e"); (case k3 => walk_at "k00w"); (case k4 => rfl))
  | ((with_reducible refine' ev_inN ?k1 ?k2 ?k3 ?k4); (case k1 => walk_at "k00e"); (case k2 => walk_at "k00e"); (case k3 => walk_at "k00w"); (case k4 => rfl))
  | ((with_reducible refine' ev_inI ?k1 ?k2 ?k3); (case k1 => walk_at "k00e"); (case k2 => walk_at "k00e"); (case k3 => exact Or.inr (Or.inr rfl)))
  | ((with_reducible refine' ev_lcW ?k1 ?k2 ?k3 ?k4); (case k1 => walk_at "k00n"); (case k2 => decide); (case k3 => walk_at "k00x"); (case k4 => first | decide | exact of_decide_eq_true rfl))
  | walk_at "k00r"
  | (with_reducible exact ev_c))
local macro_rules | `(tactic| walk_at "k00k") => `(tactic| first
  | exact Coes.nil
  | ((refine' Coes.cons ?k1 ?k2); (case k1 => first | exact coe_rfl | exact coe_b rfl); (case k2 => walk_at "k00k")))
local macro_rules | `(tactic| walk_at "k00i") => `(tactic| first | rfl | assumption)
local macro_rules | `(tactic| walk_at "k00c") => `(tactic| first | trivial | decide | omega | assumption | exact Or.inl ⟨by omega, by omega⟩)
local macro_rules | `(tactic| walk_at "k00l") => `(tactic| first | decide | (simp; done) | (simp; omega) | omega | assumption | (simp [rangeR_len2, fzs]; done) | (simp [rangeR_len2, fzs]; omega))
local macro_rules | `(tactic| walk_at "k00s") => `(tactic| first | rfl | decide +kernel | assumption | exact Sh.shaped (by assumption))
local macro_rules | `(tactic| walk_at "k00t") => `(tactic| first
  | ((with_reducible refine' et_test ?k1); (case k1 => walk_at "k00e"))
  | ((with_reducible refine' et_B ?k1); (case k1 => walk_at "k00e"))
  | ((with_reducible refine' et_not ?k1); (case k1 => walk_at "k00t"))
  | ((with_reducible refine' et_and0 ?k1 ?k2); (case k1 => walk_at "k00t"); (case k2 => first | rfl | assumption))
  | ((with_reducible refine' et_or1 ?k1 ?k2); (case k1 => walk_at "k00t"); (case k2 => first | rfl | assumption))
  | ((with_reducible refine' et_and ?k1 ?k2); (case k1 => walk_at "k00t"); (case k2 => intro hb; walk_at "k00t"))
  | ((with_reducible refine' et_or ?k1 ?k2); (case k1 => walk_at "k00t"); (case k2 => intro hb; walk_at "k00t"))
  | (with_reducible exact et_yes))

local macro_rules | `(tactic| walk_at "k00n") => `(tactic| first
  | ((with_reducible refine' evi_rng1 ?k1 ?k2); (case k1 => walk_at "k00e"); (case k2 => walk_at "k00y"))
  | ((with_reducible refine' evi_rng2 ?k1 ?k2 ?k3); (case k1 => walk_at "k00e"); (case k2 => walk_at "k00e"); (case k3 => walk_at "k00y"))
  | ((with_reducible refine' evi_tup ?k1); (case k1 => walk_at "k00e"))
  | ((with_reducible refine' evi_lst ?k1 ?k2); (case k1 => walk_at "k00e"); (case k2 => first | exact Or.inl rfl | exact Or.inr rfl)))
local macro_rules | `(tactic| walk_at "k00y") => `(tactic| first | decide | omega | (simp; omega) | assumption)
local macro_rules | `(tactic| walk_at "k00x") => `(tactic| first | decide | assumption | (rw [rangeR_iv, List.length_map]; unfold iv; rw [List.length_map, List.length_range]; omega))
local macro_rules | `(tactic| walk_at "k00w") => `(tactic| first | exact Or.inr (Or.inr rfl) | exact Or.inl rfl | exact Or.inr (Or.inl rfl))
local macro_rules | `(tactic| walk_at "k00b") => `(tactic| first | decide +kernel | rfl | assumption | (simp; done))
local macro_rules | `(tactic| walk_at "k00g") => `(tactic| first
  | ((with_reducible refine' q_asgF ?k1 ?k2); (case k1 => walk_at "k00e"))
  | ((with_reducible refine' q_guardF ?k1 ?k2 ?k3); (case k1 => walk_at "k00t"); (case k2 => walk_at "k00b"))
  | ((with_reducible refine' q_guardT ?k1 ?k2 ?k3); (case k1 => walk_at "k00t"); (case k2 => walk_at "k00b"))
  | ((with_reducible refine' q_two ?k1 ?k2); (case k1 => walk_at "k00e"))
  | ((with_reducible refine' q_par ?k1 ?k2); (case k1 => walk_at "k00a"))
  | ((with_reducible refine' q_par3 ?k1 ?k2); (case k1 => walk_at "k00a")))
local macro_rules | `(tactic| walk_at "k00f") => `(tactic| ((refine' Ev.is ?k1 ?k2); (case k1 => walk_at "k00e"); (case k2 => rfl)))
local macro_rules | `(tactic| walk_at "k00r") => `(tactic| first
  | ((with_reducible refine' ev_small ?k1 ?k2); (case k1 => walk_at "k00a"); (case k2 => rfl))
  | ((with_reducible refine' ev_bank ?k1); (case k1 => walk_at "k00a"))
  | ((with_reducible refine' ev_table ?k1); (case k1 => walk_at "k00a")))
/-- some number -/
def IntP (p : Int → Prop) (d : PyData) : Prop := ∃ k, d = .int k ∧ p k
section
variable {W : Wd} {H0 : Hp} {K : PySem.W.Frag} {E : List AV} {ta tb tc te : TE} {D : Ends} {Ex : XK} {r : Addr} {i j l : Nat} {P P' P'' : PyData → Prop}
theorem ev_take {n : Int} (h0 : E[i]? = some (.raw (.ref r))) (hn : Ev W H0 te E (.f (.int n))) (b : 0 < n ∧ n < 1000000) : EvN W H0 (tCall (spTaken W r) [] Ex (tCons (tVar i) (tCons te tNil))) E (IntP fun k => 0 ≤ k ∧ k < n) := fun σ H S Q k =>
  (ev_raw h0) σ H S _ fun v H1 n1 q1 => hn.late (S.next n1) fun x H2 n2 q2 => by
    cases q1
    cases q2
    exact ⟨n, rfl, b, n2.2, fun z H' h1 h2 n3 => k (.int z) _ H' ⟨z, rfl, h1, h2⟩ ((n1.trans n2).trans n3) (.int z)⟩
theorem evn_add {c : Int} {p : Int → Prop} (h : EvN W H0 te E (IntP p)) : EvN W H0 (tOp (rI0 fun i j => .int (i + j)) (tC (.int c)) te) E (IntP fun k => p (k - c)) := fun σ H S Q k => h σ H S _ fun d v H1 pd n1 q => by
  obtain ⟨z, rfl, pz⟩ := pd
  cases q
  exact ⟨c, z, rfl, rfl, k (.int (c + z)) _ H1 ⟨c + z, rfl, by show p (c + z - c); rw [show c + z - c = z by omega]; exact pz⟩ n1 (.int _)⟩
theorem evn_imp (h : EvN W H0 te E P) (f : ∀ d, P d → P' d) : EvN W H0 te E P' := fun σ H S Q k => h σ H S Q fun d v H' p n q => k d v H' (f d p) n q
theorem evn_t2 (h1 : EvN W H0 ta E P) (h2 : EvN W H0 tb E P') : EvN W H0 (tTup (tCons ta (tCons tb tNil))) E (fun d => ∃ x y, P x ∧ P' y ∧ d = .tuple [x, y]) := fun σ H S Q k =>
  h1 σ H S _ fun x v H1 px n1 q1 => h2 σ H1 (S.next n1) _ fun y u H2 py n2 q2 => ⟨sz_le (by show 2 ≤ 100000; decide), fun p hp => by
    have e := same_new hp (.tup [v, u])
    exact k (.tuple [x, y]) _ _ ⟨x, y, px, py, rfl⟩ ((n1.trans n2).trans (.of_same n2.2 e)) (.tup upd_same (.cons ((q1.to n2.1).same e) (.cons (q2.same e) .nil)))⟩
theorem evn_t3 (h1 : EvN W H0 ta E P) (h2 : EvN W H0 tb E P') (h3 : EvN W H0 tc E P'') : EvN W H0 (tTup (tCons ta (tCons tb (tCons tc tNil)))) E (fun d => ∃ x y z, P x ∧ P' y ∧ P'' z ∧ d = .tuple [x, y, z]) := fun σ H S Q k =>
  h1 σ H S _ fun x v H1 px n1 q1 => h2 σ H1 (S.next n1) _ fun y u H2 py n2 q2 => h3 σ H2 ((S.next n1).next n2) _ fun z t H3 pz n3 q3 => ⟨sz_le (by show 3 ≤ 100000; decide), fun p hp => by
    have e := same_new hp (.tup [v, u, t])
    exact k (.tuple [x, y, z]) _ _ ⟨x, y, z, px, py, pz, rfl⟩ (((n1.trans n2).trans n3).trans (.of_same n3.2 e)) (.tup upd_same (.cons (((q1.to n2.1).to n3.1).same e) (.cons ((q2.to n3.1).same e) (.cons (q3.same e) .nil))))⟩
theorem evn_tupOf {P : List PyData → Prop} (h : EvNL W H0 ta E P) : EvN W H0 (tCB (rTupZ K) (tCons ta tNil)) E (fun d => ∃ ds, P ds ∧ d = .tuple ds) := fun σ H S Q k => h σ H S _ fun ds v H1 pd n1 q => by
  obtain ⟨p, xs, rfl, hn, hp, t⟩ := q
  refine ⟨p, xs, rfl, .inl ⟨SqL.of hp, fun l hl => ?_⟩⟩
  have e := same_new hl (.tup xs)
  exact k (.tuple ds) _ _ ⟨ds, pd, rfl⟩ (n1.trans (.of_same n1.2 e)) (.tup upd_same (t.same e))
/-- [.. for j in range(n)], n drawn -/
theorem evn_lcN {m : Int} {vs : List Nat} {p : Int → Prop} (hn : EvN W H0 ta E (IntP p)) (hb : ∀ n, p n → 0 ≤ n ∧ n ≤ m) (hm : m ≤ 50000) (hj : j ∈ vs) (he : ∀ d, EvN W H0 te ((wipeE E vs).set j (.dat d)) P) :
    EvNL W H0 (tLc (iRng1 (tCons ta tNil)) (gName j) tYes te vs) E (fun ds => (∃ n, p n ∧ (ds.length : Int) = n) ∧ ∀ d ∈ ds, P d) := fun σ H S Q k => hn σ H S _ fun d v H1 pd n1 q => by
  obtain ⟨n, rfl, pn⟩ := pd
  cases q
  have b := hb n pn
  have h := evn_lc (W := W) (H0 := H0) (E := E) (te := te) (P := P) (evi_rng1 (te := tC (.int n)) (n := n) ev_int (by omega)) hj (by rw [rangeR_len]; omega) fun d _ => he d
  exact h σ H1 (S.next n1) Q fun ds v' H' pd n2 q2 => k ds v' H' ⟨⟨n, pn, by rw [pd.1, rangeR_len]; omega⟩, pd.2⟩ (n1.trans n2) (q2.back n1)
theorem st_retN (h : EvN W H0 te E P) (k : ∀ d v H', P d → Nx W H0 H' → Fz H' v d → D.rt v H') : Go W H0 (tRet te) D E := fun σ H S => h σ H S _ fun d v H' p n q => k d v H' p (S.nx.trans n) q
theorem st_appendN {p : Addr} {ds : List PyData} (ho : E[i]? = some (.own p ds)) (hg : ∀ a ∈ E, ∀ d, a ≠ .gen d) (h : EvN W H0 te E P) (hl : ds.length < 100000) (k : ∀ d, P d → ∀ σ H, Sat W H0 (E.set i (.own p (ds ++ [d]))) σ H → D.nx σ H) :
    Go W H0 (tDrop (tBM K "list" rAppend (tVar i) (tCons te tNil))) D E := fun σ H S => by
  obtain ⟨e1, xs0, hp0, t0⟩ := own_at S ho
  refine ⟨_, e1, .inl ⟨rfl, xs0, SqL.of hp0⟩, h σ H S _ fun d v H1 pd n1 q => ?_⟩
  obtain ⟨e2, xs, hp, t⟩ := own_at (S.next n1) ho
  exact ⟨p, xs, v, rfl, rfl, hp, sz_lt' (by rw [t.length]; exact hl), k d pd _ _ ((S.next n1).chOwn ho hg (t.append (.cons q .nil)))⟩
theorem st_tupNNL (h1 : EvN W H0 ta E P) (h2 : EvN W H0 tb E P') (k : ∀ d e p σ H, P d → P' e → Sat W H0 (((E.set i (.dat d)).set j (.dat e)).set l (.own p [])) σ H → D.nx σ H) :
    Go W H0 (tAsg (tTup (tCons ta (tCons tb (tCons (tLst tNil) tNil)))) (gTup K 3 (gCons (gName i) (gCons (gName j) (gCons (gName l) gNil))))) D E := fun σ H S =>
  h1 σ H S _ fun x v H1 px n1 q1 => h2 σ H1 (S.next n1) _ fun y u H2 py n2 q2 => (ev_lst eva_nil rfl (by decide)) σ H2 ((S.next n1).next n2) _ fun z H3 n3 q3 => by
    obtain ⟨q, ys, rfl, hn3, hp3, t3⟩ := q3
    refine ⟨sz_le (by show 3 ≤ 100000; decide), fun p hp => ?_⟩
    have e := same_new hp (.tup [v, u, .ref q])
    refine ⟨p, _, rfl, SqT.of upd_same, rfl, _, _, rfl, _, _, rfl, _, _, rfl, rfl, ?_⟩
    have n4 : Nx W H3 (upd H3 p (.tup [v, u, .ref q])) := .of_same n3.2 e
    have S1 := ((((S.next n1).next n2).next n3).next n4)
    refine k x y q _ _ px py ?_
    have S2 := (S1.dat (i := i) (((q1.to n2.1).to n3.1).same e)).dat (i := j) ((q2.to n3.1).same e)
    have hq : (upd H3 p (.tup [v, u, .ref q])) q = some (.lst ys) := e _ _ hp3
    exact S2.put (a := .own q []) ⟨rfl, (((S.next n1).next n2).nx).freshF hn3, ys, hq, t3.same e⟩ fun q' es z k' cs hk => by
      cases z
      by_cases h1' : j = k'
      · subst h1'
        have hi : j < (E.set i (.dat x)).length := by have := (List.getElem?_eq_some_iff.mp hk).1; rwa [List.length_set] at this
        rw [List.getElem?_set_self hi] at hk
        cases hk
      · rw [List.getElem?_set_ne h1'] at hk
        by_cases h2' : i = k'
        · subst h2'
          have hi : i < E.length := by have := (List.getElem?_eq_some_iff.mp hk).1; rwa [List.length_set] at this
          rw [List.getElem?_set_self hi] at hk
          cases hk
        · rw [List.getElem?_set_ne h2'] at hk
          obtain ⟨_, zs, hz, _⟩ := own_at ((S.next n1).next n2) hk
          exact (W.frl hn3 hz).elim
theorem q_tupNNL {tz : TS} (h1 : EvN W H0 ta E P) (h2 : EvN W H0 tb E P') (k : ∀ d e p, P d → P' e → Go W H0 tz D (((E.set i (.dat d)).set j (.dat e)).set l (.own p []))) :
    Go W H0 (tSeq (tAsg (tTup (tCons ta (tCons tb (tCons (tLst tNil) tNil)))) (gTup K 3 (gCons (gName i) (gCons (gName j) (gCons (gName l) gNil))))) tz) D E := go_seq (st_tupNNL h1 h2 fun d e p σ H pd pe S => k d e p pd pe σ H S)
end
def spObject (W : Wd) (r : Addr) : Sp := fun vs H Q _ => vs = [.ref r] ∧ W.J H ∧ ∀ (t : Th) v H', t.ok → Nx W H H' → Fz H' v t.d → Q v H'
theorem pairs_of {n : Int} : ∀ {ds : List PyData}, (∀ d ∈ ds, ∃ x y, IntP (fun k => 0 ≤ k ∧ k < n) x ∧ IntP (fun k => 0 ≤ k ∧ k < 4) y ∧ d = .tuple [x, y]) → ∃ r : List (Int × Int), ds = r.map pairP ∧ r.length = ds.length ∧ ∀ p ∈ r, (0 ≤ p.1 ∧ p.1 < n) ∧ 0 ≤ p.2 ∧ p.2 ≤ 3
  | [], _ => ⟨[], rfl, rfl, fun _ h => by cases h⟩
  | d :: ds, h => by
    obtain ⟨x, y, ⟨a, rfl, ha⟩, ⟨b, rfl, hb⟩, rfl⟩ := h d List.mem_cons_self
    obtain ⟨r, rfl, hl, hr⟩ := pairs_of fun d hd => h d (List.mem_cons_of_mem _ hd)
    refine ⟨(a, b) :: r, rfl, by simp, fun p hp => ?_⟩
    rcases List.mem_cons.mp hp with rfl | hp
    · exact ⟨ha, hb.1, by show b ≤ 3; omega⟩
    · exact hr p hp
theorem ints_of {p : Int → Prop} : ∀ {ds : List PyData}, (∀ d ∈ ds, IntP p d) → ∃ ns : List Int, ds = ns.map .int ∧ ns.length = ds.length ∧ ∀ k ∈ ns, p k
  | [], _ => ⟨[], rfl, rfl, fun _ h => by cases h⟩
  | d :: ds, h => by
    obtain ⟨a, rfl, ha⟩ := h d List.mem_cons_self
    obtain ⟨ns, rfl, hl, hr⟩ := ints_of fun d hd => h d (List.mem_cons_of_mem _ hd)
    refine ⟨a :: ns, rfl, by simp, fun p hp => ?_⟩
    rcases List.mem_cons.mp hp with rfl | hp
    · exact ha
    · exact hr p hp
section
variable {P : Program} {w : World} {K : PySem.W.Frag} {mg : Str → Option Value} {base : Heap} {f : Addr} {fd : FuncData}
theorem sc__law_object : FnScope ["_law_row", "_law_kind", "_law_k", "_law_many", "_law_wide", "_law_rows", "_law_j"] ["_law_row"] (defScope (stm 40)) := ⟨rfl, rfl, rfl, by decide +kernel, rfl, by decide +kernel, by decide +kernel⟩
theorem ok__law_object {W : Wd} {r : Addr} {f1 : Addr} {fd1 : FuncData} (F : FnP K "_law_object" 40 f fd) (B : Bt mg) (G__law_taken : FnOk P w K mg base CX0 1 f1 fd1 ["_law_row", "_law_many"] (spTaken W r)) (N__law_taken : Kn K mg "_law_taken" ["_law_row", "_law_many"] f1 fd1) :
    FnOk P w K mg base CX0 2 f fd ["_law_row"] (spObject W r) := by
  refine F.ok sc__law_object (fun vs H Q E h => by obtain ⟨rfl, _⟩ := h; rfl) (fun cdv A outer s H vs Q E hr h => ⟨_, PSs.nox (pss_cons (ps_set (i := 1) sc__law_object.nd rfl (Or.inl rfl) (k_call G__law_taken N__law_taken hr (by decide) rfl (pa_cons (pv 0) (pa_cons pe_int pa_nil))))
      (pss_cons (ps_if (pt_cmpR op_lt (pv 1) pe_int (nomark _)) (pss_one (ps_ret (pe_tup (pa_cons (pe_ix ix_list (pe_lst (pa_cons pe_str (pa_cons pe_str pa_nil))) (pv 1) (fun _ _ => rfl)) (pa_cons (pe_op op_add pe_int (k_call G__law_taken N__law_taken hr (by decide) rfl (pa_cons (pv 0) (pa_cons pe_int pa_nil)))) pa_nil))))) pss_nil)
      (pss_cons (ps_if (pt_cmpR op_lt (pv 1) pe_int (nomark _)) (pss_one (ps_ret (pe_tup (pa_cons (pe_ix ix_list (pe_lst (pa_cons pe_str (pa_cons pe_str pa_nil))) (pe_op op_sub (pv 1) pe_int) (fun _ _ => rfl)) (pa_cons (pe_op op_add pe_int (k_call G__law_taken N__law_taken hr (by decide) rfl (pa_cons (pv 0) (pa_cons pe_int pa_nil)))) (pa_cons (pe_op op_add pe_int (k_call G__law_taken N__law_taken hr (by decide) rfl (pa_cons (pv 0) (pa_cons pe_int pa_nil)))) pa_nil)))))) pss_nil)
      (pss_cons (ps_if (pt_cmpR op_lt (pv 1) pe_int (nomark _)) (pss_one (ps_ret (pe_tup (pa_cons (pe_ix ix_list (pe_lst (pa_cons pe_str (pa_cons pe_str pa_nil))) (pe_op op_sub (pv 1) pe_int) (fun _ _ => rfl)) (pa_cons (pe_op op_add pe_int (k_call G__law_taken N__law_taken hr (by decide) rfl (pa_cons (pv 0) (pa_cons pe_int pa_nil)))) pa_nil))))) pss_nil)
      (pss_cons (ps_if (pt_cmpR op_eq (pv 1) pe_int (nomark _)) (pss_one (ps_ret (pe_tup (pa_cons pe_str (pa_cons (k_tuple B.tuple rfl (pa_cons (pe_lc (own := [("_law_k", 2)]) (g := gName 2) rfl sc__law_object.nd (pi_range1 (by rfl) B.range (pa_cons (pe_op op_add pe_int (k_call G__law_taken N__law_taken hr (by decide) rfl (pa_cons (pv 0) (pa_cons pe_int pa_nil)))) pa_nil)) (blkOk_by (own := [("_law_k", 2)]) (N := ["_law_row", "_law_kind", "_law_k", "_law_many", "_law_wide", "_law_rows", "_law_j"]) (sc := defScope (stm 40)) (by decide +kernel)) (fun _ _ _ _ _ => pg_name (i := 2) sc__law_object.nd rfl (Or.inl rfl)) (fun _ _ _ _ _ => pts_nil) (fun _ _ _ _ _ => (k_call G__law_taken N__law_taken hr (by decide) rfl (pa_cons (pv 0) (pa_cons pe_int pa_nil))))) pa_nil)) pa_nil))))) pss_nil)
      (pss_cons (ps_asg (pe_tup (pa_cons (pe_op op_add pe_int (k_call G__law_taken N__law_taken hr (by decide) rfl (pa_cons (pv 0) (pa_cons pe_int pa_nil)))) (pa_cons (pe_op op_add pe_int (k_call G__law_taken N__law_taken hr (by decide) rfl (pa_cons (pv 0) (pa_cons pe_int pa_nil)))) (pa_cons (pe_lst pa_nil) pa_nil)))) (pg_tup rfl (pgs_cons (pg_name (i := 3) sc__law_object.nd rfl (Or.inr rfl)) (pgs_cons (pg_name (i := 4) sc__law_object.nd rfl (Or.inl rfl)) (pgs_cons (pg_name (i := 5) sc__law_object.nd rfl (Or.inl rfl)) pgs_nil)))))
      (pss_cons (ps_for PassesOwn.never rfl (pi_range1 (by rfl) B.range (pa_cons (pv 3) pa_nil)) (pg_name (i := 2) sc__law_object.nd rfl (Or.inl rfl)) (pss_one (ps_expr (pe_bm PySem.F.plainAttrs_list PySem.F.slot_list_append PySem.F.type_list_append mt_append (pv 5) (pa_cons (k_tuple B.tuple rfl (pa_cons (pe_lc (own := [("_law_j", 6)]) (g := gName 6) rfl sc__law_object.nd (pi_range1 (by rfl) B.range (pa_cons (pv 4) pa_nil)) (blkOk_by (own := [("_law_j", 6)]) (N := ["_law_row", "_law_kind", "_law_k", "_law_many", "_law_wide", "_law_rows", "_law_j"]) (sc := defScope (stm 40)) (by decide +kernel)) (fun _ _ _ _ _ => pg_name (i := 6) sc__law_object.nd rfl (Or.inl rfl)) (fun _ _ _ _ _ => pts_nil) (fun _ _ _ _ _ => (pe_tup (pa_cons (k_call G__law_taken N__law_taken hr (by decide) rfl (pa_cons (pv 0) (pa_cons (pv 3) pa_nil))) (pa_cons (k_call G__law_taken N__law_taken hr (by decide) rfl (pa_cons (pv 0) (pa_cons pe_int pa_nil))) pa_nil))))) pa_nil)) pa_nil)))))
      (pss_one (ps_ret (pe_tup (pa_cons pe_str (pa_cons (k_tuple B.tuple rfl (pa_cons (pv 5) pa_nil)) pa_nil)))))))))))), ?_⟩)
  obtain ⟨rfl, j, k⟩ := h
  have S0 := sat_start (W := W) (N := ["_law_row", "_law_kind", "_law_k", "_law_many", "_law_wide", "_law_rows", "_law_j"]) (as := [.r (.ref r)]) j (.cons rfl .nil)
  suffices g : Go W H _ { nx := fun _ H' => Q .non H', rt := Q } (startE ["_law_row", "_law_kind", "_law_k", "_law_many", "_law_wide", "_law_rows", "_law_j"] [.r (.ref r)]) from g _ H S0
  refine' q_asgN (ev_take rfl ev_int (by decide)) fun d hd => ?nx0
  obtain ⟨kd, rfl, h1, h2⟩ := hd
  rcases (by omega : kd = 0 ∨ kd = 1 ∨ kd = 2 ∨ kd = 3 ∨ kd = 4 ∨ kd = 5 ∨ kd = 6 ∨ kd = 7 ∨ kd = 8) with rfl | rfl | rfl | rfl | rfl | rfl | rfl | rfl | rfl
  · repeat walk_at "k00g"
    refine st_retN (evn_t2 (Ev.n (d := .str "counter") (P := fun d => d = .str "counter") (by walk_at "k00f") rfl) (evn_add (ev_take rfl ev_int (by decide)))) fun d v H' p n q => ?_
    obtain ⟨_, _, rfl, ⟨m, rfl, hm⟩, rfl⟩ := p
    exact k (.counter m) v H' (by show 2 ≤ m ∧ m ≤ 4; omega) n q
  · repeat walk_at "k00g"
    refine st_retN (evn_t2 (Ev.n (d := .str "register") (P := fun d => d = .str "register") (by walk_at "k00f") rfl) (evn_add (ev_take rfl ev_int (by decide)))) fun d v H' p n q => ?_
    obtain ⟨_, _, rfl, ⟨m, rfl, hm⟩, rfl⟩ := p
    exact k (.register m) v H' (by show 2 ≤ m ∧ m ≤ 4; omega) n q
  · repeat walk_at "k00g"
    refine st_retN (evn_t3 (Ev.n (d := .str "stack") (P := fun d => d = .str "stack") (by walk_at "k00f") rfl) (evn_add (ev_take rfl ev_int (by decide))) (evn_add (ev_take rfl ev_int (by decide)))) fun d v H' p n q => ?_
    obtain ⟨_, _, _, rfl, ⟨m, rfl, hm⟩, ⟨m2, rfl, hm2⟩, rfl⟩ := p
    exact k (.stack m m2) v H' (by show (1 ≤ m ∧ m ≤ 2) ∧ 1 ≤ m2 ∧ m2 ≤ 2; omega) n q
  · repeat walk_at "k00g"
    refine st_retN (evn_t3 (Ev.n (d := .str "queue") (P := fun d => d = .str "queue") (by walk_at "k00f") rfl) (evn_add (ev_take rfl ev_int (by decide))) (evn_add (ev_take rfl ev_int (by decide)))) fun d v H' p n q => ?_
    obtain ⟨_, _, _, rfl, ⟨m, rfl, hm⟩, ⟨m2, rfl, hm2⟩, rfl⟩ := p
    exact k (.queue m m2) v H' (by show (1 ≤ m ∧ m ≤ 2) ∧ 1 ≤ m2 ∧ m2 ≤ 2; omega) n q
  · repeat walk_at "k00g"
    refine st_retN (evn_t2 (Ev.n (d := .str "set") (P := fun d => d = .str "set") (by walk_at "k00f") rfl) (evn_add (ev_take rfl ev_int (by decide)))) fun d v H' p n q => ?_
    obtain ⟨_, _, rfl, ⟨m, rfl, hm⟩, rfl⟩ := p
    exact k (.set m) v H' (by show 2 ≤ m ∧ m ≤ 3; omega) n q
  · repeat walk_at "k00g"
    refine st_retN (evn_t2 (Ev.n (d := .str "agree") (P := fun d => d = .str "agree") (by walk_at "k00f") rfl) (evn_add (ev_take rfl ev_int (by decide)))) fun d v H' p n q => ?_
    obtain ⟨_, _, rfl, ⟨m, rfl, hm⟩, rfl⟩ := p
    exact k (.agree m) v H' (by show 2 ≤ m ∧ m ≤ 3; omega) n q
  · repeat walk_at "k00g"
    refine st_retN (evn_t2 (Ev.n (d := .str "bank") (P := fun d => d = .str "bank") ev_str rfl) (evn_tupOf (evn_lcN (m := 10) (evn_add (ev_take rfl ev_int (by decide))) (fun n h => by omega) (by decide) (by decide) fun d => ev_take rfl ev_int (by decide)))) fun d v H' p n q => ?_
    obtain ⟨_, _, rfl, ⟨ds, ⟨⟨m, hm, hl⟩, hds⟩, rfl⟩, rfl⟩ := p
    obtain ⟨ns, rfl, hl2, hns⟩ := ints_of hds
    exact k (.bank ns) v H' (by
      refine ⟨by omega, fun x hx => ?_⟩
      have := hns x hx
      omega) n q
  all_goals
    repeat walk_at "k00g"
    refine q_tupNNL (i := 3) (j := 4) (l := 5) (evn_add (ev_take rfl ev_int (by decide))) (evn_add (ev_take rfl ev_int (by decide))) fun d e p pd pe => ?_
    obtain ⟨m, rfl, hm⟩ := pd
    obtain ⟨wd, rfl, hw⟩ := pe
    refine go_wk (E' := [.raw (.ref r), .no, .no, .dat (.int m), .dat (.int wd), .own p [], .no]) (.same (.no (.same (.same (.same (.same (.same .nil))))))) ?_
    refine q_forR (fun i E' => (i : Int) ≤ m ∧ ∃ rs : List (List (Int × Int)), rs.length = i ∧ (∀ q ∈ rs, (q.length : Int) = wd ∧ ∀ p ∈ q, (0 ≤ p.1 ∧ p.1 < m) ∧ 0 ≤ p.2 ∧ p.2 ≤ 3) ∧ E' = [.raw (.ref r), .no, .no, .dat (.int m), .dat (.int wd), .own p (rs.map rowP), .no]) (ev_dat rfl) (by omega) ⟨by omega, [], rfl, (fun _ h => by cases h), rfl⟩ (fun i E' hi p1 => ?_) fun E' p1 => ?_
    · obtain ⟨_, rs, hl, hrs, rfl⟩ := p1
      refine st_appendN (i := 5) (ds := rs.map rowP) rfl (by intro q hq d z; subst z; simp [List.set] at hq) (evn_tupOf (evn_lc (evi_rng1 (ev_dat rfl) (by omega)) (by decide) (by rw [rangeR_len]; omega) fun d _ => evn_t2 (ev_take (n := m) rfl (ev_dat rfl) (by omega)) (ev_take (n := 4) rfl ev_int (by decide)))) (by rw [List.length_map]; omega) fun d pd σ H S => ?_
      obtain ⟨ds, ⟨h1, h2⟩, rfl⟩ := pd
      obtain ⟨q, rfl, h3, h4⟩ := pairs_of h2
      rw [rangeR_len] at h1
      refine ⟨_, ⟨by omega, rs ++ [q], by rw [List.length_append, hl]; rfl, fun x hx => ?_, rfl⟩, ?_⟩
      · rcases List.mem_append.mp hx with z | z
        · exact hrs x z
        · rw [List.mem_singleton.mp z]
          exact ⟨by omega, h4⟩
      · rw [List.map_append]
        exact S.wk (.same (.same (.no (.same (.same (.same (.same .nil)))))))
    · obtain ⟨_, rs, hl, hrs, rfl⟩ := p1
      refine st_retN (Ev.n (d := (Th.table rs).d) (P := fun d => d = (Th.table rs).d) (Ev.is (ev_tup (as := [.f (.str "table"), .f (.tuple (rs.map rowP))]) (eva_cons ev_str (eva_cons (ev_tupOf (ev_own rfl) (.inr rfl)) eva_nil)) rfl (by show 2 ≤ 100000; decide)) rfl) rfl) fun d v H' p n q => ?_
      subst p
      refine k (.table rs) v H' ⟨by omega, wd.toNat, by omega, fun q hq => ?_⟩ n q
      obtain ⟨a1, a2⟩ := hrs q hq
      refine ⟨by omega, fun p hp => ?_⟩
      obtain ⟨b1, b2⟩ := a2 p hp
      exact ⟨⟨b1.1, by omega⟩, b2⟩
end
end K00

/-! Part P. -/
set_option Elab.async false
set_option linter.all false
set_option autoImplicit false
set_option maxRecDepth 100000
set_option maxHeartbeats 4000000
/-! What the law draws: picks, bent objects. -/
namespace K00
open PySem PySem.Spec PyProof.Rows L2
local macro_rules | `(tactic| walk_at "k00a") => `(tactic| first
  | (with_reducible exact eva_nil)
  | ((with_reducible refine' eva_cons ?k1 ?k2); (case k1 => walk_at "k00e"); (case k2 => walk_at "k00a"))
  | ((with_reducible refine' eva_star ?k1 ?k2); (case k1 => walk_at "k00e"); (case k2 => walk_at "k00a")))
local macro_rules | `(tactic| walk_at "k00o") => `(tactic| first
  | (with_reducible exact evo_no)
  | ((with_reducible refine' evo_some ?k1); (case k1 => walk_at "k00e")))
local macro_rules | `(tactic| walk_at "k00e") => `(tactic| first
  | (with_reducible exact ev_int)
  | (with_reducible exact ev_str)
  | (with_reducible exact ev_bl)
  | (with_reducible exact ev_non)
  | ((with_reducible refine' ev_dat ?k1); (case k1 => rfl))
  | ((with_reducible refine' ev_own ?k1); (case k1 => rfl))
  | ((with_reducible refine' ev_argF ?k1 ?k2); (case k1 => rfl); (case k2 => rfl))
  | ((with_reducible refine' ev_arg ?k1); (case k1 => rfl))
  | ((with_reducible refine' ev_genF ?k1 ?k2); (case k1 => rfl); (case k2 => rfl))
  | ((with_reducible refine' ev_gen ?k1); (case k1 => rfl))
  | ((with_reducible refine' ev_raw ?k1); (case k1 => rfl))
  | ((with_reducible refine' ev_ixT ?k1 ?k2 ?k3); (case k1 => walk_at "k00e"); (case k2 => walk_at "k00e"); (case k3 => walk_at "k00i"))
  | ((with_reducible refine' ev_ixL ?k1 ?k2 ?k4 ?k3); (case k1 => walk_at "k00e"); (case k2 => walk_at "k00e"); (case k4 => first | exact Or.inl rfl | exact Or.inr rfl); (case k3 => walk_at "k00i"))
  | ((with_reducible refine' ev_isInt ?k1 ?k2); (case k1 => walk_at "k00e"); (case k2 => rfl))
  | ((with_reducible refine' ev_isBool ?k1 ?k2); (case k1 => walk_at "k00e"); (case k2 => rfl))
  | ((with_reducible refine' ev_isStr ?k1 ?k2); (case k1 => walk_at "k00e"); (case k2 => rfl))
  | ((with_reducible refine' ev_isTup ?k1 ?k2); (case k1 => walk_at "k00e"); (case k2 => rfl))
  | ((with_reducible refine' ev_isLst ?k1 ?k2); (case k1 => walk_at "k00e"); (case k2 => rfl))
  | ((with_reducible refine' ev_isSeq ?k1 ?k2); (case k1 => walk_at "k00e"); (case k2 => rfl))
  | ((with_reducible refine' ev_lenB ?k1 ?k2); (case k1 => walk_at "k00e"); (case k2 => first | exact Or.inl rfl | exact Or.inr rfl))
  | ((with_reducible refine' ev_int2 ?k1 ?k2); (case k1 => walk_at "k00e"); (case k2 => walk_at "k00e"))
  | ((with_reducible refine' ev_cmp2 ?k1 ?k2); (case k1 => walk_at "k00e"); (case k2 => walk_at "k00e"))
  | ((with_reducible refine' ev_intC ?k1 ?k2 ?k3); (case k1 => walk_at "k00e"); (case k2 => walk_at "k00e"); (case k3 => walk_at "k00c"))
  | ((with_reducible refine' ev_eqS ?k1 ?k2); (case k1 => walk_at "k00e"); (case k2 => walk_at "k00e"))
  | ((with_reducible refine' ev_eqI ?k1 ?k2); (case k1 => walk_at "k00e"); (case k2 => walk_at "k00e"))
  | ((with_reducible refine' ev_neI ?k1 ?k2); (case k1 => walk_at "k00e"); (case k2 => walk_at "k00e"))
  | ((with_reducible refine' ev_eqB ?k1 ?k2); (case k1 => walk_at "k00e"); (case k2 => walk_at "k00e"))
  | ((with_reducible refine' ev_neB ?k1 ?k2); (case k1 => walk_at "k00e"); (case k2 => walk_at "k00e"))
  | ((with_reducible refine' ev_eqD ?k1 ?k2 ?k3 ?k4 ?k5 ?k6); (case k1 => walk_at "k00e"); (case k2 => walk_at "k00e"); (case k3 => rfl); (case k4 => rfl); (case k5 => walk_at "k00s"); (case k6 => walk_at "k00s"))
  | ((with_reducible refine' ev_neD ?k1 ?k2 ?k3 ?k4 ?k5 ?k6); (case k1 => walk_at "k00e"); (case k2 => walk_at "k00e"); (case k3 => rfl); (case k4 => rfl); (case k5 => walk_at "k00s"); (case k6 => walk_at "k00s"))
  | ((with_reducible refine' ev_inD ?k1 ?k2 ?k3 ?k4 ?k5 ?k6); (case k1 => walk_at "k00e"); (case k2 => walk_at "k00e"); (case k3 => rfl); (case k4 => rfl); (case k5 => walk_at "k00s"); (case k6 => walk_at "k00s"))
  | ((with_reducible refine' ev_niD ?k1 ?k2 ?k3 ?k4 ?k5 ?k6); (case k1 => walk_at "k00e"); (case k2 => walk_at "k00e"); (case k3 => rfl); (case k4 => rfl); (case k5 => walk_at "k00s"); (case k6 => walk_at "k00s"))
  | ((with_reducible refine' ev_isNone ?k1 ?k2); (case k1 => walk_at "k00e"); (case k2 => rfl))
  | ((with_reducible refine' ev_notNone ?k1 ?k2); (case k1 => walk_at "k00e"); (case k2 => rfl))
  | ((with_reducible refine' ev_neg ?k1); (case k1 => walk_at "k00e"))
  | ((with_reducible refine' ev_tup ?k1 ?k2 ?k3); (case k1 => walk_at "k00a"); (case k2 => first | rfl | exact allF_app _ _); (case k3 => walk_at "k00l"))
  | ((with_reducible refine' ev_lst ?k1 ?k2 ?k3); (case k1 => walk_at "k00a"); (case k2 => first | rfl | exact allF_app _ _); (case k3 => walk_at "k00l"))
  | ((with_reducible refine' ev_slT ?k1 ?k2 ?k3); (case k1 => walk_at "k00e"); (case k2 => walk_at "k00o"); (case k3 => walk_at "k00o"))
  | ((with_reducible refine' ev_catT ?k1 ?k2 ?k3); (case k1 => walk_at "k00e"); (case k2 => walk_at "k00e"); (case k3 => walk_at "k00l"))
  | ((with_reducible refine' ev_cat ?k1 ?k2 ?k4 ?k5 ?k3); (case k1 => walk_at "k00e"); (case k2 => walk_at "k00e"); (case k4 => first | exact Or.inl rfl | exact Or.inr rfl); (case k5 => first | exact Or.inl rfl | exact Or.inr rfl); (case k3 => walk_at "k00l"))
  | ((with_reducible refine' ev_tupOf ?k1 ?k2); (case k1 => walk_at "k00e"); (case k2 => first | exact Or.inl rfl | exact Or.inr rfl))
  | ((with_reducible refine' ev_lstOf ?k1); (case k1 => walk_at "k00e"))
  | ((with_reducible refine' ev_intI ?k1); (case k1 => walk_at "k00e"))
  | ((with_reducible refine' ev_intB ?k1); (case k1 => walk_at "k00e"))
  | ((with_reducible refine' ev_and0 ?k1 ?k2); (case k1 => walk_at "k00e"); (case k2 => first | rfl | assumption))
  | ((with_reducible refine' ev_or1 ?k1 ?k2); (case k1 => walk_at "k00e"); (case k2 => first | rfl | assumption))
  | ((with_reducible refine' ev_ifT ?k1 ?k2 ?k3); (case k1 => walk_at "k00t"); (case k2 => first | rfl | assumption); (case k3 => walk_at "k00e"))
  | ((with_reducible refine' ev_ifF ?k1 ?k2 ?k3); (case k1 => walk_at "k00t"); (case k2 => first | rfl | assumption); (case k3 => walk_at "k00e"))
  | ((with_reducible refine' ev_andV ?k1 ?k2); (case k1 => walk_at "k00e"); (case k2 => intro hb; walk_at "k00e"))
  | ((with_reducible refine' ev_orV ?k1 ?k2); (case k1 => walk_at "k00e"); (case k2 => intro hb; walk_at "k00e"))
  | ((with_reducible refine' ev_notV ?k1); (case k1 => walk_at "k00e"))
  | ((with_reducible refine' ev_chain ?k1 ?k2 ?k3); (case k1 => walk_at "k00e"); (case k2 => walk_at "k00e"); (case k3 => walk_at "k00e"))
  | ((with_reducible refine' ev_inT ?k1 ?k2 ?k3 ?k4); (case k1 => walk_at "k00e"); (case k2 => walk_at "k00e"); (case k3 => walk_at "k00w"); (case k4 => rfl))
  | ((with_reducible refine' ev_inN ?k1 ?k2 ?k3 ?k4); (case k1 => walk_at "k00e"); (case k2 => walk_at "k00e"); (case k3 => walk_at "k00w"); (case k4 => rfl))
  | ((with_reducible refine' ev_inI ?k1 ?k2 ?k3); (case k1 => walk_at "k00e"); (case k2 => walk_at "k00e"); (case k3 => exact Or.inr (Or.inr rfl)))
  | ((with_reducible refine' ev_lcW ?k1 ?k2 ?k3 ?k4); (case k1 => walk_at "k00n"); (case k2 => decide); (case k3 => walk_at "k00x"); (case k4 => first | decide | exact of_decide_eq_true rfl))
  | walk_at "k00r"
  | (with_reducible exact ev_c))
local macro_rules | `(tactic| walk_at "k00k") => `(tactic| first
  | exact Coes.nil
  | ((refine' Coes.cons ?k1 ?k2); (case k1 => first | exact coe_rfl | exact coe_b rfl); (case k2 => walk_at "k00k")))
local macro_rules | `(tactic| walk_at "k00i") => `(tactic| first | rfl | assumption)
local macro_rules | `(tactic| walk_at "k00c") => `(tactic| first | trivial | decide | omega | assumption | exact Or.inl ⟨by omega, by omega⟩)
local macro_rules | `(tactic| walk_at "k00l") => `(tactic| first | decide | (simp; done) | (simp; omega) | omega | assumption | (simp [rangeR_len2, fzs]; done) | (simp [rangeR_len2, fzs]; omega))
local macro_rules | `(tactic| walk_at "k00s") => `(tactic| first | rfl | decide +kernel | assumption | exact Sh.shaped (by assumption))
local macro_rules | `(tactic| walk_at "k00t") => `(tactic| first
  | ((with_reducible refine' et_test ?k1); (case k1 => walk_at "k00e"))
  | ((with_reducible refine' et_B ?k1); (case k1 => walk_at "k00e"))
  | ((with_reducible refine' et_not ?k1); (case k1 => walk_at "k00t"))
  | ((with_reducible refine' et_and0 ?k1 ?k2); (case k1 => walk_at "k00t"); (case k2 => first | rfl | assumption))
  | ((with_reducible refine' et_or1 ?k1 ?k2); (case k1 => walk_at "k00t"); (case k2 => first | rfl | assumption))
  | ((with_reducible refine' et_and ?k1 ?k2); (case k1 => walk_at "k00t"); (case k2 => intro hb; walk_at "k00t"))
  | ((with_reducible refine' et_or ?k1 ?k2); (case k1 => walk_at "k00t"); (case k2 => intro hb; walk_at "k00t"))
  | (with_reducible exact et_yes))

local macro_rules | `(tactic| walk_at "k00n") => `(tactic| first
  | ((with_reducible refine' evi_rng1 ?k1 ?k2); (case k1 => walk_at "k00e"); (case k2 => walk_at "k00y"))
  | ((with_reducible refine' evi_rng2 ?k1 ?k2 ?k3); (case k1 => walk_at "k00e"); (case k2 => walk_at "k00e"); (case k3 => walk_at "k00y"))
  | ((with_reducible refine' evi_tup ?k1); (case k1 => walk_at "k00e"))
  | ((with_reducible refine' evi_lst ?k1 ?k2); (case k1 => walk_at "k00e"); (case k2 => first | exact Or.inl rfl | exact Or.inr rfl)))
local macro_rules | `(tactic| walk_at "k00y") => `(tactic| first | decide | omega | (simp; omega) | assumption)
local macro_rules | `(tactic| walk_at "k00x") => `(tactic| first | decide | assumption | (rw [rangeR_iv, List.length_map]; unfold iv; rw [List.length_map, List.length_range]; omega))
local macro_rules | `(tactic| walk_at "k00w") => `(tactic| first | exact Or.inr (Or.inr rfl) | exact Or.inl rfl | exact Or.inr (Or.inl rfl))
local macro_rules | `(tactic| walk_at "k00b") => `(tactic| first | decide +kernel | rfl | assumption | (simp; done))
local macro_rules | `(tactic| walk_at "k00g") => `(tactic| first
  | ((with_reducible refine' q_asgF ?k1 ?k2); (case k1 => walk_at "k00e"))
  | ((with_reducible refine' q_guardF ?k1 ?k2 ?k3); (case k1 => walk_at "k00t"); (case k2 => walk_at "k00b"))
  | ((with_reducible refine' q_guardT ?k1 ?k2 ?k3); (case k1 => walk_at "k00t"); (case k2 => walk_at "k00b"))
  | ((with_reducible refine' q_two ?k1 ?k2); (case k1 => walk_at "k00e"))
  | ((with_reducible refine' q_par ?k1 ?k2); (case k1 => walk_at "k00a"))
  | ((with_reducible refine' q_par3 ?k1 ?k2); (case k1 => walk_at "k00a")))
local macro_rules | `(tactic| walk_at "k00f") => `(tactic| ((refine' Ev.is ?k1 ?k2); (case k1 => walk_at "k00e"); (case k2 => rfl)))
local macro_rules | `(tactic| walk_at "k00r") => `(tactic| first
  | ((with_reducible refine' ev_small ?k1 ?k2); (case k1 => walk_at "k00a"); (case k2 => rfl))
  | ((with_reducible refine' ev_bank ?k1); (case k1 => walk_at "k00a"))
  | ((with_reducible refine' ev_table ?k1); (case k1 => walk_at "k00a")))
def spPick (W : Wd) (r : Addr) : Sp := fun vs H Q _ => ∃ p xs, vs = [.ref r, .ref p] ∧ W.J H ∧ H p = some (.lst xs) ∧ ¬ W.R p ∧ (0 < xs.length ∧ xs.length < 1000000) ∧ ∀ v H', v ∈ xs → Nx W H H' → Q v H'
/-- the bent ones of an object (its name, its parts) -/
def bentD (nm : Str) (ds : List PyData) : List PyData :=
  ([.tuple ds, .list ds, .tuple (ds ++ [.int 1]), .tuple (cutD ds none (some 1)), .tuple [.str nm, .bool true], .tuple [.str nm, .int 6], .tuple [.str nm, .int 1], .tuple [.str nm, .int 2], .tuple [.str nm, .int 3, .int 3], .tuple [.str nm, .int 2, .int 4]]
    ++ [.tuple [.str nm, .tuple [.int 1, .int 2]], .tuple [.str nm, .tuple [.int 1]], .tuple [.str nm, .tuple [.int 6, .int 1]], .tuple [.str nm, .tuple [.tuple [.int 0, .int 1]]], .tuple [.str nm, .tuple [.tuple [.tuple [.int 0, .int 1]]]], .tuple [.str nm, .tuple [.tuple [.tuple [.int 1, .int 1]]]], .tuple [.str nm, .tuple [.tuple [.tuple [.int 0, .int 10]]]]])
  ++ [.tuple [.str nm, .tuple [.tuple [.tuple [.int 0, .int 1]], .tuple [.tuple [.int 1, .int 0], .tuple [.int 0, .int 0]]]], .tuple [.str "heap", .int 2], .none, .int 3, .tuple [], .str "counter", .tuple [.int 1, .int 2], .tuple [.str nm, .tuple [.tuple [.tuple [.int 0, .bool true]]]], .tuple [.str nm, .tuple []], .tuple [.str nm, .tuple [.tuple []]]]
def spBent (W : Wd) (r : Addr) : Sp := fun vs H Q _ => ∃ (nm : Str) (ds : List PyData) (v : V), vs = [.ref r, v] ∧ W.J H ∧ Fz H v (.tuple ds) ∧ atI ds 0 = some (.str nm) ∧ ds.length ≤ 3 ∧
  ∀ p ys es H', H' p = some (.lst ys) → ¬ W.R p → DqAll W.R H' ys es → (∀ e ∈ es, e ∈ bentD nm ds) → es.length = 6 → Nx W H H' → Q (.ref p) H'
theorem atI_ok {α : Type} {l : List α} {k : Int} (h : 0 ≤ k ∧ k < (l.length : Int)) : ∃ v, atI l k = some v ∧ v ∈ l := by
  have h1 : k.toNat < l.length := by omega
  have e : ((k.toNat : Nat) : Int) = k := by omega
  have z : atI l ((k.toNat : Nat) : Int) = some l[k.toNat] := atI_nat (List.getElem?_eq_getElem h1)
  rw [e] at z
  exact ⟨l[k.toNat], z, List.getElem_mem h1⟩
theorem dq_sub {R : Addr → Prop} {H : Hp} {xs : List V} {bl : List PyData} (t : DqAll R H xs bl) : ∀ {acc : List V}, (∀ v ∈ acc, v ∈ xs) → ∃ es, DqAll R H acc es ∧ (∀ e ∈ es, e ∈ bl) ∧ es.length = acc.length
  | [], _ => ⟨[], .nil, (fun _ h => by cases h), rfl⟩
  | v :: acc, h => by
    obtain ⟨es, h1, h2, h3⟩ := dq_sub t fun x hx => h x (List.mem_cons_of_mem _ hx)
    obtain ⟨i, hi⟩ := List.mem_iff_getElem?.mp (h v List.mem_cons_self)
    obtain ⟨d, e1, e2⟩ := t.at hi
    refine ⟨d :: es, .cons e2 h1, fun e he => ?_, by simp [h3]⟩
    rcases List.mem_cons.mp he with rfl | he
    · exact List.mem_of_getElem? e1
    · exact h2 e he
section
variable {P : Program} {w : World} {K : PySem.W.Frag} {mg : Str → Option Value} {base : Heap} {f : Addr} {fd : FuncData}
theorem sc__law_pick : FnScope ["_law_row", "_law_things"] ["_law_row", "_law_things"] (defScope (stm 38)) := ⟨rfl, rfl, rfl, by decide +kernel, rfl, by decide +kernel, by decide +kernel⟩
theorem sc__law_bent : FnScope ["_law_row", "_law_thing", "_law_found", "_law_turn"] ["_law_row", "_law_thing"] (defScope (stm 49)) := ⟨rfl, rfl, rfl, by decide +kernel, rfl, by decide +kernel, by decide +kernel⟩
theorem ok__law_pick {W : Wd} {r : Addr} {f1 : Addr} {fd1 : FuncData} (F : FnP K "_law_pick" 38 f fd) (B : Bt mg) (G__law_taken : FnOk P w K mg base CX0 1 f1 fd1 ["_law_row", "_law_many"] (spTaken W r)) (N__law_taken : Kn K mg "_law_taken" ["_law_row", "_law_many"] f1 fd1) :
    FnOk P w K mg base CX0 2 f fd ["_law_row", "_law_things"] (spPick W r) := by
  refine F.ok sc__law_pick (fun vs H Q E h => by obtain ⟨p, xs, rfl, _⟩ := h; rfl) (fun cdv A outer s H vs Q E hr h => ⟨_, PSs.nox (pss_one (ps_ret (pe_ix ix_list (pv 1) (k_call G__law_taken N__law_taken hr (by decide) rfl (pa_cons (pv 0) (pa_cons (k_len B.len rfl (pa_cons (pv 1) pa_nil)) pa_nil))) (fun _ _ => rfl)))), ?_⟩)
  obtain ⟨p, xs, rfl, j, hp, nr, ⟨h1, h2⟩, k⟩ := h
  refine ⟨.ref p, rfl, ⟨.ref r, rfl, ⟨.ref p, rfl, p, xs, rfl, .inl (SqL.of hp), ?_⟩⟩⟩
  refine ⟨xs.length, rfl, ⟨by omega, by omega⟩, j, fun z H' a b n => ?_⟩
  obtain ⟨v, e1, e2⟩ := atI_ok (l := xs) ⟨a, b⟩
  exact ⟨p, xs, z, v, rfl, rfl, SqL.of (n.1.lst hp nr), e1, k v H' e2 n⟩
theorem ok__law_bent {W : Wd} {r : Addr} {f1 : Addr} {fd1 : FuncData} (F : FnP K "_law_bent" 49 f fd) (B : Bt mg) (G__law_pick : FnOk P w K mg base CX0 2 f1 fd1 ["_law_row", "_law_things"] (spPick W r)) (N__law_pick : Kn K mg "_law_pick" ["_law_row", "_law_things"] f1 fd1) :
    FnOk P w K mg base CX0 3 f fd ["_law_row", "_law_thing"] (spBent W r) := by
  refine F.ok sc__law_bent (fun vs H Q E h => by obtain ⟨nm, ds, v, rfl, _⟩ := h; rfl) (fun cdv A outer s H vs Q E hr h => ⟨_, PSs.nox (pss_cons (ps_set (i := 2) sc__law_bent.nd rfl (Or.inr rfl) (pe_lst (pa_cons (pv 1) (pa_cons (k_list B.list rfl (pa_cons (pv 1) pa_nil)) (pa_cons (pe_op op_catA (pv 1) (pe_tup (pa_cons pe_int pa_nil))) (pa_cons (pe_slice sl_tupA (pv 1) po_none (po_some pe_int)) (pa_cons (pe_tup (pa_cons (pe_ix ix_tup (pv 1) pe_int (fun _ _ => rfl)) (pa_cons pe_bl pa_nil))) (pa_cons (pe_tup (pa_cons (pe_ix ix_tup (pv 1) pe_int (fun _ _ => rfl)) (pa_cons pe_int pa_nil))) (pa_cons (pe_tup (pa_cons (pe_ix ix_tup (pv 1) pe_int (fun _ _ => rfl)) (pa_cons pe_int pa_nil))) (pa_cons (pe_tup (pa_cons (pe_ix ix_tup (pv 1) pe_int (fun _ _ => rfl)) (pa_cons pe_int pa_nil))) (pa_cons (pe_tup (pa_cons (pe_ix ix_tup (pv 1) pe_int (fun _ _ => rfl)) (pa_cons pe_int (pa_cons pe_int pa_nil)))) (pa_cons (pe_tup (pa_cons (pe_ix ix_tup (pv 1) pe_int (fun _ _ => rfl)) (pa_cons pe_int (pa_cons pe_int pa_nil)))) pa_nil))))))))))))
      (pss_cons (ps_set (i := 2) sc__law_bent.nd rfl (Or.inr rfl) (pe_op op_cat (pv 2) (pe_lst (pa_cons (pe_tup (pa_cons (pe_ix ix_tup (pv 1) pe_int (fun _ _ => rfl)) (pa_cons (pe_tup (pa_cons pe_int (pa_cons pe_int pa_nil))) pa_nil))) (pa_cons (pe_tup (pa_cons (pe_ix ix_tup (pv 1) pe_int (fun _ _ => rfl)) (pa_cons (pe_tup (pa_cons pe_int pa_nil)) pa_nil))) (pa_cons (pe_tup (pa_cons (pe_ix ix_tup (pv 1) pe_int (fun _ _ => rfl)) (pa_cons (pe_tup (pa_cons pe_int (pa_cons pe_int pa_nil))) pa_nil))) (pa_cons (pe_tup (pa_cons (pe_ix ix_tup (pv 1) pe_int (fun _ _ => rfl)) (pa_cons (pe_tup (pa_cons (pe_tup (pa_cons pe_int (pa_cons pe_int pa_nil))) pa_nil)) pa_nil))) (pa_cons (pe_tup (pa_cons (pe_ix ix_tup (pv 1) pe_int (fun _ _ => rfl)) (pa_cons (pe_tup (pa_cons (pe_tup (pa_cons (pe_tup (pa_cons pe_int (pa_cons pe_int pa_nil))) pa_nil)) pa_nil)) pa_nil))) (pa_cons (pe_tup (pa_cons (pe_ix ix_tup (pv 1) pe_int (fun _ _ => rfl)) (pa_cons (pe_tup (pa_cons (pe_tup (pa_cons (pe_tup (pa_cons pe_int (pa_cons pe_int pa_nil))) pa_nil)) pa_nil)) pa_nil))) (pa_cons (pe_tup (pa_cons (pe_ix ix_tup (pv 1) pe_int (fun _ _ => rfl)) (pa_cons (pe_tup (pa_cons (pe_tup (pa_cons (pe_tup (pa_cons pe_int (pa_cons pe_int pa_nil))) pa_nil)) pa_nil)) pa_nil))) pa_nil))))))))))
      (pss_cons (ps_set (i := 2) sc__law_bent.nd rfl (Or.inr rfl) (pe_op op_cat (pv 2) (pe_lst (pa_cons (pe_tup (pa_cons (pe_ix ix_tup (pv 1) pe_int (fun _ _ => rfl)) (pa_cons (pe_tup (pa_cons (pe_tup (pa_cons (pe_tup (pa_cons pe_int (pa_cons pe_int pa_nil))) pa_nil)) (pa_cons (pe_tup (pa_cons (pe_tup (pa_cons pe_int (pa_cons pe_int pa_nil))) (pa_cons (pe_tup (pa_cons pe_int (pa_cons pe_int pa_nil))) pa_nil))) pa_nil))) pa_nil))) (pa_cons (pe_tup (pa_cons pe_str (pa_cons pe_int pa_nil))) (pa_cons pe_non (pa_cons pe_int (pa_cons (pe_tup pa_nil) (pa_cons pe_str (pa_cons (pe_tup (pa_cons pe_int (pa_cons pe_int pa_nil))) (pa_cons (pe_tup (pa_cons (pe_ix ix_tup (pv 1) pe_int (fun _ _ => rfl)) (pa_cons (pe_tup (pa_cons (pe_tup (pa_cons (pe_tup (pa_cons pe_int (pa_cons pe_bl pa_nil))) pa_nil)) pa_nil)) pa_nil))) (pa_cons (pe_tup (pa_cons (pe_ix ix_tup (pv 1) pe_int (fun _ _ => rfl)) (pa_cons (pe_tup pa_nil) pa_nil))) (pa_cons (pe_tup (pa_cons (pe_ix ix_tup (pv 1) pe_int (fun _ _ => rfl)) (pa_cons (pe_tup (pa_cons (pe_tup pa_nil) pa_nil)) pa_nil))) pa_nil)))))))))))))
      (pss_one (ps_ret (pe_lc (own := [("_law_turn", 3)]) (g := gName 3) rfl sc__law_bent.nd (pi_range1 (by rfl) B.range (pa_cons pe_int pa_nil)) (blkOk_by (own := [("_law_turn", 3)]) (N := ["_law_row", "_law_thing", "_law_found", "_law_turn"]) (sc := defScope (stm 49)) (by decide +kernel)) (fun _ _ _ _ _ => pg_name (i := 3) sc__law_bent.nd rfl (Or.inl rfl)) (fun _ _ _ _ _ => pts_nil) (fun _ _ _ _ _ => (k_call G__law_pick N__law_pick hr (by decide) rfl (pa_cons (pv 0) (pa_cons (pv 2) pa_nil)))))))))), ?_⟩)
  obtain ⟨nm, ds, v0, rfl, j, fz, i0, hl, k⟩ := h
  have S0 := sat_start (W := W) (N := ["_law_row", "_law_thing", "_law_found", "_law_turn"]) (as := [.r (.ref r), .f (.tuple ds)]) j (.cons rfl (.cons fz .nil))
  suffices g : Go W H _ { nx := fun _ H' => Q .non H', rt := Q } (startE ["_law_row", "_law_thing", "_law_found", "_law_turn"] [.r (.ref r), .f (.tuple ds)]) from g _ H S0
  have cat1 : ds.length + 1 ≤ 100000 := by omega
  refine' q_asgB (d := .list [.tuple ds, .list ds, .tuple (ds ++ [.int 1]), .tuple (cutD ds none (some 1)), .tuple [.str nm, .bool true], .tuple [.str nm, .int 6], .tuple [.str nm, .int 1], .tuple [.str nm, .int 2], .tuple [.str nm, .int 3, .int 3], .tuple [.str nm, .int 2, .int 4]]) (ev_lstM ?a1 ?a2 ?a3) ?a4 ?nx0
  case a1 => walk_at "k00a"
  case a2 => rfl
  case a3 => exact of_decide_eq_true rfl
  case a4 => rfl
  refine' q_asgB (d := .list _) (ev_catM (ev_gen rfl) (ev_lstM ?b1 ?b2 ?b3) rfl rfl ?b0) ?b4 ?nx1
  case b1 => walk_at "k00a"
  case b2 => rfl
  case b3 => exact of_decide_eq_true rfl
  case b0 => exact of_decide_eq_true rfl
  case b4 => rfl
  refine' q_asgB (d := .list (bentD nm ds)) (ev_catM (ev_gen rfl) (ev_lstM ?c1 ?c2 ?c3) rfl rfl ?c0) ?c4 ?nx2
  case c1 => walk_at "k00a"
  case c2 => rfl
  case c3 => exact of_decide_eq_true rfl
  case c0 => exact of_decide_eq_true rfl
  case c4 => rfl
  have bl : (bentD nm ds).length = 27 := rfl
  intro σ H1 S
  show tLc (iRng1 (tCons (tC (.int 6)) tNil)) (gName 3) tYes (tCall (spPick W r) [] E0 (tCons (tVar 0) (tCons (tVar 2) tNil))) [3] σ H1 Q
  refine (evi_rng1 (n := 6) ev_int (by decide)) σ H1 S _ ?_
  intro J H2 n2 s D hD
  have S2 := S.next n2
  obtain ⟨o, e1, vb, e2, qb⟩ := S2.slot (i := 2) (a := .gen (.list (bentD nm ds))) rfl
  cases qb with
  | lst hq nq tq =>
    rename_i q xs
    have xl : xs.length = 27 := by rw [tq.length, bl]
    refine lc_src (σ := σ) (vs := [3]) (fun i H => Nx W H2 H ∧ ∃ acc, H D = some (.lst acc) ∧ acc.length = i ∧ ∀ v ∈ acc, v ∈ xs) s (fun i H c => c.1) ⟨.new n2.2 hD _, [], upd_same, rfl, fun _ h => by cases h⟩ (fun i x y H3 hi c la => ?_) fun H3 c => ?_
    · obtain ⟨c1, acc, c2, c3, c4⟩ := c
      have hi6 : i < 6 := by
        have := (List.getElem?_eq_some_iff.mp hi).1
        rw [List.length_map, rangeR_len] at this
        exact this
      have S3 := (S2.next c1).wipe [3]
      obtain ⟨o0, f1, f2⟩ := S3.slot (i := 0) (a := .raw (.ref r)) rfl
      obtain ⟨o2, g1, vg, g2, qg⟩ := S3.slot (i := 2) (a := .gen (.list (bentD nm ds))) rfl
      have sl : ∀ i, i ≠ 3 → (L2.wipe σ [3])[i]? = σ[i]? := fun i hi => by
        rw [wipe_get, if_neg (by simpa using hi)]
      have vq : vg = .ref q := by
        rw [sl 2 (by decide), e1] at g1
        cases g1
        rw [e2] at g2
        exact (Option.some.inj g2).symm
      subst vq
      have r0 : ((L2.wipe σ [3]).set 3 (some y))[0]? = some (some (.ref r)) := by
        rw [List.getElem?_set_ne (by decide), f1]
        exact congrArg some f2
      have r2 : ((L2.wipe σ [3]).set 3 (some y))[2]? = some (some (.ref q)) := by
        rw [List.getElem?_set_ne (by decide), g1]
        exact congrArg some g2
      refine ⟨wipe_set σ [3] _ (by decide), ?_⟩
      refine yes_if ?_
      have hq3 : H3 q = some (.lst xs) := c1.1.lst hq nq
      refine ⟨.ref r, r0, .ref q, r2, q, xs, rfl, c1.2, hq3, nq, ⟨by omega, by omega⟩, fun v H4 hv n4 => ?_⟩
      have hD4 : H4 D = some (.lst acc) := n4.1.lst c2 (W.nr n2.2 hD)
      refine ⟨acc, hD4, sz_lt' (by omega), (c1.trans n4).upd (W.frn n2.2 hD) hD4, _, upd_same, by rw [List.length_append, c3]; rfl, fun x hx => ?_⟩
      rcases List.mem_append.mp hx with z | z
      · exact c4 x z
      · rw [List.mem_singleton.mp z]
        exact hv
    · obtain ⟨c1, acc, c2, c3, c4⟩ := c
      obtain ⟨es, h1, h2, h3⟩ := dq_sub (DqAll.keep c1.1 _ _ tq) c4
      refine k D acc es H3 c2 (W.nr n2.2 hD) h1 h2 ?_ ((S.nx.trans n2).trans c1)
      rw [h3, c3, List.length_map, rangeR_len]
      rfl
end
end K00

/-! Part R. -/
set_option Elab.async false
set_option linter.all false
set_option autoImplicit false
set_option maxRecDepth 100000
set_option maxHeartbeats 4000000
/-! What is told of a refusal. -/
namespace K00
open PySem PySem.Spec PyProof.Rows L2
theorem sc__law_refused : FnScope ["_law_work"] ["_law_work"] (defScope (stm 50)) := ⟨rfl, rfl, rfl, by decide +kernel, rfl, by decide +kernel, by decide +kernel⟩
/-- what is made of an exception of the class cls -/
def Told (K : PySem.W.Frag) (CO CS CC : Addr) (Q : VK) (cls : Value) (H : Hp) : Prop :=
  ∃ b, PySem.W.exmOne K cls (.ref CO) = some b ∧ (b = true → Q (.str "object") H) ∧ (b = false →
    ∃ b, PySem.W.exmOne K cls (.ref CS) = some b ∧ (b = true → Q (.str "state") H) ∧ (b = false →
      ∃ b, PySem.W.exmOne K cls (.ref CC) = some b ∧ (b = true → Q (.str "call") H) ∧ (b = false → False)))
def TT3 (K : PySem.W.Frag) (CO CS CC : Addr) : (XK → Hp → VK → Prop) → Hp → VK → Prop := fun tl H Q => tl (fun cls _ H' => Told K CO CS CC Q cls H') H fun _ H' => Q .non H'
theorem refused_gives {X : Cx} {q : Str} {g : Addr} {cdg : Value} {CO CS CC : Addr} (hO : X.mg "BadObject" = some (.ref CO)) (hS : X.mg "BadState" = some (.ref CS)) (hC : X.mg "BadCall" = some (.ref CC)) :
    LamX.GivesTo X ["_law_work"] "_law_refused" (defScope (stm 50)) g cdg (defBody (stm 50)) "_law_work" q (TT3 X.K CO CS CC) := by
  intro f c' s H Q tl act hc h
  refine ⟨_, pss_cons (ps_try_many (Wout := fun _ _ _ _ => False) (l := [(.ref CO, fun _ _ _ => tRet (tC (.str "object"))), (.ref CS, fun _ _ _ => tRet (tC (.str "state"))), (.ref CC, fun _ _ _ => tRet (tC (.str "call")))])
    (tb := fun W D σ H => ∃ Ech : XK, (∀ cls d σ' H', Ech cls d H' → W cls d σ' H') ∧ σ[0]? = some (some (.ref f)) ∧ H c' = some (LamX.CodeO c' q) ∧ tl Ech H fun _ H' => D.nx σ H')
    rfl rfl LamX.takes0 (fun W pn xe tk _ => ?_) (.cons ⟨rfl, by decide, .inl hO⟩ (fun a oe cls d pn _ _ => pss_one (ps_ret pe_str)) (.cons ⟨rfl, by decide, .inl hS⟩ (fun a oe cls d pn _ _ => pss_one (ps_ret pe_str)) (.cons ⟨rfl, by decide, .inl hC⟩ (fun a oe cls d pn _ _ => pss_one (ps_ret pe_str)) .nil)))) (pss_one (ps_ret pe_non)), ?_⟩
  · refine ⟨fun pins s' σ H' D I h' => ?_⟩
    obtain ⟨Ech, hW, h1, h2, h3⟩ := h'
    exact (pss_one (ps_expr (act W pn xe Ech _ _ tk hW))).run pins s' σ H' D I ⟨h1, h2, h3⟩
  · refine ⟨fun cls _ H' => Told X.K CO CS CC Q cls H', fun cls d σ' H' z => ?_, rfl, hc, h⟩
    obtain ⟨b1, e1, t1, f1⟩ := z
    refine ⟨b1, e1, fun hb a _ => t1 hb, fun hb => ?_⟩
    obtain ⟨b2, e2, t2, f2⟩ := f1 hb
    refine ⟨b2, e2, fun hb a _ => t2 hb, fun hb => ?_⟩
    obtain ⟨b3, e3, t3, f3⟩ := f2 hb
    exact ⟨b3, e3, fun hb a _ => t3 hb, fun hb => f3 hb⟩
end K00

/-! Part S. -/
set_option Elab.async false
set_option linter.all false
set_option autoImplicit false
set_option maxRecDepth 100000
set_option maxHeartbeats 4000000
/-! Lambdas as readings; any of the promises; more comprehensions. -/
namespace K00
open PySem PySem.Spec PyProof.Rows L2
theorem pe_or {X : Cx} {e : Expr} {t u : TE} (h1 : PE X e t) (h2 : PE X e u) : PE X e (fun σ H Q => t σ H Q ∨ u σ H Q) := ⟨fun pins s σ H Q I h => h.elim (h1.run pins s σ H Q I) (h2.run pins s σ H Q I)⟩
/-- one of the promises -/
def spAny {ι : Type} (sp : ι → Sp) : Sp := fun vs H Q E => ∃ i, sp i vs H Q E
theorem fn_any {ι : Type} {P : Program} {w : World} {K : PySem.W.Frag} {mg : Str → Option Value} {base : Heap} {CX : CXT} {k : Nat} {f : Addr} {fd : FuncData} {ps : List Str} {sp : ι → Sp} (F : ∀ i, FnOk P w K mg base CX k f fd ps (sp i)) : FnOk P w K mg base CX k f fd ps (spAny sp) :=
  ⟨fun vs H Q E h => h.elim fun i z => (F i).len vs H Q E z, fun A outer s H args us vs Q E hr e hb r h => h.elim fun i z => (F i).run A outer s H args us vs Q E hr e hb r z⟩
section
variable {K : PySem.W.Frag} {ns : List Int} {a r : Addr} {L : Prop} {T : List (Addr × Str)} {H0 : Hp} {E : List AV}
theorem nx_ext {H H1 : Hp} (j : (Wl K ns a r L T).J H) (e : LamX.ExtN H H1) (t : LamX.Tabs T H1) : Nx (Wl K ns a r L T) H H1 := by
  obtain ⟨⟨i, s, m, hr, hi⟩, sc, _⟩ := j
  refine ⟨fun b o h c => e b o h ?_, ⟨⟨i, s, m, e _ _ hr fun ps z => (by cases z), hi⟩, ?_, t⟩, trivial⟩
  · intro ps z
    subst z
    rcases c with ⟨_, xs, z⟩ | ⟨xs, z⟩ <;> cases z
  · rcases sc with ⟨l, q | ⟨o, q⟩⟩ | ⟨l, q⟩
    · exact .inl ⟨l, .inl (e _ _ q fun ps z => by cases z)⟩
    · exact .inl ⟨l, .inr ⟨o, e _ _ q fun ps z => by cases z⟩⟩
    · exact .inr ⟨l, q⟩
/-- refused(lambda: ..), the lambda raises C -/
theorem ev_lam {t : XK → TE} {CO CS CC C : Addr} {out : Str} (h : ∀ Ex : XK, EvX (Wl K ns a r L T) H0 (t Ex) E (fun H' => Ex (.ref C) none H')) (ho : ∀ (Q : VK) (H : Hp), Q (.str out) H → Told K CO CS CC Q (.ref C) H) :
    Ev (Wl K ns a r L T) H0 (LamX.tLam T (TT3 K CO CS CC) t) E (.f (.str out)) := fun σ H S Q k => ⟨S.j.2.2, fun H1 e tb => by
  have n1 := nx_ext S.j e tb
  exact h _ σ H1 (S.next n1) (fun H' n => ho Q H' (k _ H' (n1.trans n) (.str out))) _⟩
end
theorem told_O {K : PySem.W.Frag} {CO CS CC : Addr} (e : PySem.W.exmOne K (.ref CO) (.ref CO) = some true) (Q : VK) (H : Hp) (q : Q (.str "object") H) : Told K CO CS CC Q (.ref CO) H := ⟨true, e, fun _ => q, fun z => by cases z⟩
theorem told_S {K : PySem.W.Frag} {CO CS CC : Addr} (e1 : PySem.W.exmOne K (.ref CS) (.ref CO) = some false) (e2 : PySem.W.exmOne K (.ref CS) (.ref CS) = some true) (Q : VK) (H : Hp) (q : Q (.str "state") H) : Told K CO CS CC Q (.ref CS) H :=
  ⟨false, e1, (fun z => by cases z), fun _ => ⟨true, e2, fun _ => q, fun z => by cases z⟩⟩
theorem told_C {K : PySem.W.Frag} {CO CS CC : Addr} (e1 : PySem.W.exmOne K (.ref CC) (.ref CO) = some false) (e2 : PySem.W.exmOne K (.ref CC) (.ref CS) = some false) (e3 : PySem.W.exmOne K (.ref CC) (.ref CC) = some true) (Q : VK) (H : Hp) (q : Q (.str "call") H) : Told K CO CS CC Q (.ref CC) H :=
  ⟨false, e1, (fun z => by cases z), fun _ => ⟨false, e2, (fun z => by cases z), fun _ => ⟨true, e3, fun _ => q, fun z => by cases z⟩⟩⟩
section
variable {W : Wd} {H0 : Hp} {K : PySem.W.Frag} {E : List AV} {te : TE}
/-- [v(x) for x in src], whatever src holds -/
theorem ev_lcA {wi : TI} {j : Nat} {vs : List Nat} {src : List AR} (v : Nat → PyData) (hi : EvI W H0 wi E src) (hj : j ∈ vs) (hl : src.length ≤ 50000) (he : ∀ i a, src[i]? = some a → Ev W H0 te ((wipeE E vs).set j a.av) (.f (v i))) :
    Ev W H0 (tLc wi (gName j) tYes te vs) E (.l ((List.range src.length).map v)) := fun σ H S Q k => hi σ H S _ fun J H1 n1 s => fun D hD => by
  refine lc_src (fun i H => i ≤ src.length ∧ Cw W H1 D ((List.range i).map v) H) s (fun i H c => c.2.1) ⟨Nat.zero_le _, Cw.start n1.2 hD⟩ (fun i a x H2 hi c q => ?_) (fun H2 c => ?_)
  · obtain ⟨_, c⟩ := c
    have hlt : i < src.length := (List.getElem?_eq_some_iff.mp hi).1
    have S2 : Sat W H0 ((wipeE E vs).set j a.av) ((L2.wipe σ vs).set j (some x)) H2 := (((S.next n1).next c.1).wipe vs).set (late_av q) av_own
    refine ⟨wipe_set σ vs _ hj, ?_⟩
    refine yes_if ?_
    refine he i a hi _ H2 S2 _ fun y H4 n4 q4 => ?_
    obtain ⟨acc, h1, h2, h3⟩ := c.more n1.2 hD n4 q4 (by rw [List.length_map, List.length_range]; omega)
    refine ⟨acc, h1, h2, hlt, ?_⟩
    rw [List.range_succ, List.map_append]
    exact h3
  · obtain ⟨_, c1, acc, c2, c3⟩ := c
    exact k _ H2 (n1.trans c1) ⟨D, acc, rfl, n1.fresh hD, c2, c3⟩
/-- over a list of these very values -/
theorem evi_raws {ta : TA} {vs : List V} (h : EvA W H0 ta E (vs.map .r)) (hl : vs.length ≤ 100000) : EvI W H0 (iList K (tLst ta)) E (vs.map .r) := fun σ H S R k =>
  h σ H S _ fun us H1 n1 q => by
    have e : us = vs := by
      clear k h S n1
      induction vs generalizing us with
      | nil => cases q; rfl
      | cons v vs ih => cases q with
        | cons q1 q2 =>
          have q1 : _ = v := q1
          rw [q1, ih (by simp at hl; omega) _ q2]
    subst e
    refine ⟨sz_le hl, fun p hp => ⟨p, rfl, ⟨us, SqL.of upd_same⟩, ?_⟩⟩
    have n2 : Nx W H1 (upd H1 p (.lst us)) := .new n1.2 hp _
    refine k _ _ (n1.trans n2) ⟨fun i H3 c hi => ?_, fun i H3 x H4 c y => ?_, fun i H3 c hi => ?_⟩
    · have h3 : H3 p = some (.lst us) := c.1.lst upd_same (W.nr n1.2 hp)
      rw [List.length_map] at hi
      exact ⟨us, us[i], SqL.of h3, List.getElem?_eq_getElem hi⟩
    · have h3 : H3 p = some (.lst us) := c.1.lst upd_same (W.nr n1.2 hp)
      obtain ⟨e, q⟩ := y
      refine ⟨e, fun a ha => ?_⟩
      rw [List.getElem?_map, q us (SqL.of h3)] at ha
      cases ha
      rfl
    · have h3 : H3 p = some (.lst us) := c.1.lst upd_same (W.nr n1.2 hp)
      rw [List.length_map] at hi
      exact ⟨us, SqL.of h3, hi⟩
end
/-! data without lists -/
mutual
def nlD : PyData → Bool
  | .tuple ds => nlAll ds
  | .list _ => false
  | .dict _ => false
  | _ => true
def nlAll : List PyData → Bool
  | [] => true
  | d :: ds => nlD d && nlAll ds
end
mutual
theorem Dq.nl {R : Addr → Prop} {H : Hp} : ∀ (d : PyData) (v : V), Dq R H v d → nlD d = true → Fz H v d
  | .none, _, h, _ => by cases h; exact .non
  | .bool b, _, h, _ => by cases h; exact .bl b
  | .int i, _, h, _ => by cases h; exact .int i
  | .str x, _, h, _ => by cases h; exact .str x
  | .tuple ds, _, h, e => by
    cases h with
    | tup h0 all => exact .tup h0 (DqAll.nl ds _ all (by simpa [nlD] using e))
  | .list _, _, h, e => by simp [nlD] at e
  | .dict _, _, h, e => by simp [nlD] at e
theorem DqAll.nl {R : Addr → Prop} {H : Hp} : ∀ (ds : List PyData) (vs : List V), DqAll R H vs ds → nlAll ds = true → FzAll H vs ds
  | [], _, h, _ => by cases h; exact .nil
  | d :: ds, _, h, e => by
    simp only [nlAll, Bool.and_eq_true] at e
    cases h with
    | cons h0 t => exact .cons (Dq.nl d _ h0 e.1) (DqAll.nl ds _ t e.2)
end
/-- a slot known better -/
theorem go_nl {W : Wd} {H0 : Hp} {E : List AV} {ts : TS} {D : Ends} {i : Nat} {d : PyData} (he : E[i]? = some (.gen d)) (e : nlD d = true) (g : Go W H0 ts D (E.set i (.dat d))) : Go W H0 ts D E := fun σ H S => by
  obtain ⟨o, e1, v, e2, q⟩ := S.slot he
  have S2 : Sat W H0 (E.set i (.dat d)) (σ.set i (some v)) H := S.dat (Dq.nl d v q e)
  have es : σ.set i (some v) = σ := by
    apply List.ext_getElem?
    intro n
    by_cases hn : i = n
    · subst hn
      have hi : i < σ.length := (List.getElem?_eq_some_iff.mp e1).1
      rw [List.getElem?_set_self hi, e1, e2]
    · rw [List.getElem?_set_ne hn]
  rw [es] at S2
  exact g σ H S2
end K00

/-! Part U. -/
set_option Elab.async false
set_option linter.all false
set_option autoImplicit false
set_option maxRecDepth 100000
set_option maxHeartbeats 4000000
/-! The law's draws as readings; its loops. -/
namespace K00
open PySem PySem.Spec PyProof.Rows L2
local macro_rules | `(tactic| walk_at "k00a") => `(tactic| first
  | (with_reducible exact eva_nil)
  | ((with_reducible refine' eva_cons ?k1 ?k2); (case k1 => walk_at "k00e"); (case k2 => walk_at "k00a"))
  | ((with_reducible refine' eva_star ?k1 ?k2); (case k1 => walk_at "k00e"); (case k2 => walk_at "k00a")))
local macro_rules | `(tactic| walk_at "k00o") => `(tactic| first
  | (with_reducible exact evo_no)
  | ((with_reducible refine' evo_some ?k1); (case k1 => walk_at "k00e")))
local macro_rules | `(tactic| walk_at "k00e") => `(tactic| first
  | (with_reducible exact ev_int)
  | (with_reducible exact ev_str)
  | (with_reducible exact ev_bl)
  | (with_reducible exact ev_non)
  | ((with_reducible refine' ev_dat ?k1); (case k1 => rfl))
  | ((with_reducible refine' ev_own ?k1); (case k1 => rfl))
  | ((with_reducible refine' ev_argF ?k1 ?k2); (case k1 => rfl); (case k2 => rfl))
  | ((with_reducible refine' ev_arg ?k1); (case k1 => rfl))
  | ((with_reducible refine' ev_genF ?k1 ?k2); (case k1 => rfl); (case k2 => rfl))
  | ((with_reducible refine' ev_gen ?k1); (case k1 => rfl))
  | ((with_reducible refine' ev_raw ?k1); (case k1 => rfl))
  | ((with_reducible refine' ev_ixT ?k1 ?k2 ?k3); (case k1 => walk_at "k00e"); (case k2 => walk_at "k00e"); (case k3 => walk_at "k00i"))
  | ((with_reducible refine' ev_ixL ?k1 ?k2 ?k4 ?k3); (case k1 => walk_at "k00e"); (case k2 => walk_at "k00e"); (case k4 => first | exact Or.inl rfl | exact Or.inr rfl); (case k3 => walk_at "k00i"))
  | ((with_reducible refine' ev_isInt ?k1 ?k2); (case k1 => walk_at "k00e"); (case k2 => rfl))
  | ((with_reducible refine' ev_isBool ?k1 ?k2); (case k1 => walk_at "k00e"); (case k2 => rfl))
  | ((with_reducible refine' ev_isStr ?k1 ?k2); (case k1 => walk_at "k00e"); (case k2 => rfl))
  | ((with_reducible refine' ev_isTup ?k1 ?k2); (case k1 => walk_at "k00e"); (case k2 => rfl))
  | ((with_reducible refine' ev_isLst ?k1 ?k2); (case k1 => walk_at "k00e"); (case k2 => rfl))
  | ((with_reducible refine' ev_isSeq ?k1 ?k2); (case k1 => walk_at "k00e"); (case k2 => rfl))
  | ((with_reducible refine' ev_lenB ?k1 ?k2); (case k1 => walk_at "k00e"); (case k2 => first | exact Or.inl rfl | exact Or.inr rfl))
  | ((with_reducible refine' ev_int2 ?k1 ?k2); (case k1 => walk_at "k00e"); (case k2 => walk_at "k00e"))
  | ((with_reducible refine' ev_cmp2 ?k1 ?k2); (case k1 => walk_at "k00e"); (case k2 => walk_at "k00e"))
  | ((with_reducible refine' ev_intC ?k1 ?k2 ?k3); (case k1 => walk_at "k00e"); (case k2 => walk_at "k00e"); (case k3 => walk_at "k00c"))
  | ((with_reducible refine' ev_eqS ?k1 ?k2); (case k1 => walk_at "k00e"); (case k2 => walk_at "k00e"))
  | ((with_reducible refine' ev_eqI ?k1 ?k2); (case k1 => walk_at "k00e"); (case k2 => walk_at "k00e"))
  | ((with_reducible refine' ev_neI ?k1 ?k2); (case k1 => walk_at "k00e"); (case k2 => walk_at "k00e"))
  | ((with_reducible refine' ev_eqB ?k1 ?k2); (case k1 => walk_at "k00e"); (case k2 => walk_at "k00e"))
  | ((with_reducible refine' ev_neB ?k1 ?k2); (case k1 => walk_at "k00e"); (case k2 => walk_at "k00e"))
  | ((with_reducible refine' ev_eqD ?k1 ?k2 ?k3 ?k4 ?k5 ?k6); (case k1 => walk_at "k00e"); (case k2 => walk_at "k00e"); (case k3 => rfl); (case k4 => rfl); (case k5 => walk_at "k00s"); (case k6 => walk_at "k00s"))
  | ((with_reducible refine' ev_neD ?k1 ?k2 ?k3 ?k4 ?k5 ?k6); (case k1 => walk_at "k00e"); (case k2 => walk_at "k00e"); (case k3 => rfl); (case k4 => rfl); (case k5 => walk_at "k00s"); (case k6 => walk_at "k00s"))
  | ((with_reducible refine' ev_inD ?k1 ?k2 ?k3 ?k4 ?k5 ?k6); (case k1 => walk_at "k00e"); (case k2 => walk_at "k00e"); (case k3 => rfl); (case k4 => rfl); (case k5 => walk_at "k00s"); (case k6 => walk_at "k00s"))
  | ((with_reducible refine' ev_niD ?k1 ?k2 ?k3 ?k4 ?k5 ?k6); (case k1 => walk_at "k00e"); (case k2 => walk_at "k00e"); (case k3 => rfl); (case k4 => rfl); (case k5 => walk_at "k00s"); (case k6 => walk_at "k00s"))
  | ((with_reducible refine' ev_isNone ?k1 ?k2); (case k1 => walk_at "k00e"); (case k2 => rfl))
  | ((with_reducible refine' ev_notNone ?k1 ?k2); (case k1 => walk_at "k00e"); (case k2 => rfl))
  | ((with_reducible refine' ev_neg ?k1); (case k1 => walk_at "k00e"))
  | ((with_reducible refine' ev_tup ?k1 ?k2 ?k3); (case k1 => walk_at "k00a"); (case k2 => first | rfl | exact allF_app _ _); (case k3 => walk_at "k00l"))
  | ((with_reducible refine' ev_lst ?k1 ?k2 ?k3); (case k1 => walk_at "k00a"); (case k2 => first | rfl | exact allF_app _ _); (case k3 => walk_at "k00l"))
  | ((with_reducible refine' ev_slT ?k1 ?k2 ?k3); (case k1 => walk_at "k00e"); (case k2 => walk_at "k00o"); (case k3 => walk_at "k00o"))
  | ((with_reducible refine' ev_catT ?k1 ?k2 ?k3); (case k1 => walk_at "k00e"); (case k2 => walk_at "k00e"); (case k3 => walk_at "k00l"))
  | ((with_reducible refine' ev_cat ?k1 ?k2 ?k4 ?k5 ?k3); (case k1 => walk_at "k00e"); (case k2 => walk_at "k00e"); (case k4 => first | exact Or.inl rfl | exact Or.inr rfl); (case k5 => first | exact Or.inl rfl | exact Or.inr rfl); (case k3 => walk_at "k00l"))
  | ((with_reducible refine' ev_tupOf ?k1 ?k2); (case k1 => walk_at "k00e"); (case k2 => first | exact Or.inl rfl | exact Or.inr rfl))
  | ((with_reducible refine' ev_lstOf ?k1); (case k1 => walk_at "k00e"))
  | ((with_reducible refine' ev_intI ?k1); (case k1 => walk_at "k00e"))
  | ((with_reducible refine' ev_intB ?k1); (case k1 => walk_at "k00e"))
  | ((with_reducible refine' ev_and0 ?k1 ?k2); (case k1 => walk_at "k00e"); (case k2 => first | rfl | assumption))
  | ((with_reducible refine' ev_or1 ?k1 ?k2); (case k1 => walk_at "k00e"); (case k2 => first | rfl | assumption))
  | ((with_reducible refine' ev_ifT ?k1 ?k2 ?k3); (case k1 => walk_at "k00t"); (case k2 => first | rfl | assumption); (case k3 => walk_at "k00e"))
  | ((with_reducible refine' ev_ifF ?k1 ?k2 ?k3); (case k1 => walk_at "k00t"); (case k2 => first | rfl | assumption); (case k3 => walk_at "k00e"))
  | ((with_reducible refine' ev_andV ?k1 ?k2); (case k1 => walk_at "k00e"); (case k2 => intro hb; walk_at "k00e"))
  | ((with_reducible refine' ev_orV ?k1 ?k2); (case k1 => walk_at "k00e"); (case k2 => intro hb; walk_at "k00e"))
  | ((with_reducible refine' ev_notV ?k1); (case k1 => walk_at "k00e"))
  | ((with_reducible refine' ev_chain ?k1 ?k2 ?k3); (case k1 => walk_at "k00e"); (case k2 => walk_at "k00e"); (case k3 => walk_at "k00e"))
  | ((with_reducible refine' ev_inT ?k1 ?k2 ?k3 ?k4); (case k1 => walk_at "k00e"); (case k2 => walk_at "k00e"); (case k3 => walk_at "k00w"); (case k4 => rfl))
  | ((with_reducible refine' ev_inN ?k1 ?k2 ?k3 ?k4); (case k1 => walk_at "k00e"); (case k2 => walk_at "k00e"); (case k3 => walk_at "k00w"); (case k4 => rfl))
  | ((with_reducible refine' ev_inI ?k1 ?k2 ?k3); (case k1 => walk_at "k00e"); (case k2 => walk_at "k00e"); (case k3 => exact Or.inr (Or.inr rfl)))
  | ((with_reducible refine' ev_lcW ?k1 ?k2 ?k3 ?k4); (case k1 => walk_at "k00n"); (case k2 => decide); (case k3 => walk_at "k00x"); (case k4 => first | decide | exact of_decide_eq_true rfl))
  | walk_at "k00r"
  | (with_reducible exact ev_c))
local macro_rules | `(tactic| walk_at "k00k") => `(tactic| first
  | exact Coes.nil
  | ((refine' Coes.cons ?k1 ?k2); (case k1 => first | exact coe_rfl | exact coe_b rfl); (case k2 => walk_at "k00k")))
local macro_rules | `(tactic| walk_at "k00i") => `(tactic| first | rfl | assumption)
local macro_rules | `(tactic| walk_at "k00c") => `(tactic| first | trivial | decide | omega | assumption | exact Or.inl ⟨by omega, by omega⟩)
local macro_rules | `(tactic| walk_at "k00l") => `(tactic| first | decide | (simp; done) | (simp; omega) | omega | assumption | (simp [rangeR_len2, fzs]; done) | (simp [rangeR_len2, fzs]; omega))
local macro_rules | `(tactic| walk_at "k00s") => `(tactic| first | rfl | decide +kernel | assumption | exact Sh.shaped (by assumption))
local macro_rules | `(tactic| walk_at "k00t") => `(tactic| first
  | ((with_reducible refine' et_test ?k1); (case k1 => walk_at "k00e"))
  | ((with_reducible refine' et_B ?k1); (case k1 => walk_at "k00e"))
  | ((with_reducible refine' et_not ?k1); (case k1 => walk_at "k00t"))
  | ((with_reducible refine' et_and0 ?k1 ?k2); (case k1 => walk_at "k00t"); (case k2 => first | rfl | assumption))
  | ((with_reducible refine' et_or1 ?k1 ?k2); (case k1 => walk_at "k00t"); (case k2 => first | rfl | assumption))
  | ((with_reducible refine' et_and ?k1 ?k2); (case k1 => walk_at "k00t"); (case k2 => intro hb; walk_at "k00t"))
  | ((with_reducible refine' et_or ?k1 ?k2); (case k1 => walk_at "k00t"); (case k2 => intro hb; walk_at "k00t"))
  | (with_reducible exact et_yes))

local macro_rules | `(tactic| walk_at "k00n") => `(tactic| first
  | ((with_reducible refine' evi_rng1 ?k1 ?k2); (case k1 => walk_at "k00e"); (case k2 => walk_at "k00y"))
  | ((with_reducible refine' evi_rng2 ?k1 ?k2 ?k3); (case k1 => walk_at "k00e"); (case k2 => walk_at "k00e"); (case k3 => walk_at "k00y"))
  | ((with_reducible refine' evi_tup ?k1); (case k1 => walk_at "k00e"))
  | ((with_reducible refine' evi_lst ?k1 ?k2); (case k1 => walk_at "k00e"); (case k2 => first | exact Or.inl rfl | exact Or.inr rfl)))
local macro_rules | `(tactic| walk_at "k00y") => `(tactic| first | decide | omega | (simp; omega) | assumption)
local macro_rules | `(tactic| walk_at "k00x") => `(tactic| first | decide | assumption | (rw [rangeR_iv, List.length_map]; unfold iv; rw [List.length_map, List.length_range]; omega))
local macro_rules | `(tactic| walk_at "k00w") => `(tactic| first | exact Or.inr (Or.inr rfl) | exact Or.inl rfl | exact Or.inr (Or.inl rfl))
local macro_rules | `(tactic| walk_at "k00b") => `(tactic| first | decide +kernel | rfl | assumption | (simp; done))
local macro_rules | `(tactic| walk_at "k00g") => `(tactic| first
  | ((with_reducible refine' q_asgF ?k1 ?k2); (case k1 => walk_at "k00e"))
  | ((with_reducible refine' q_guardF ?k1 ?k2 ?k3); (case k1 => walk_at "k00t"); (case k2 => walk_at "k00b"))
  | ((with_reducible refine' q_guardT ?k1 ?k2 ?k3); (case k1 => walk_at "k00t"); (case k2 => walk_at "k00b"))
  | ((with_reducible refine' q_two ?k1 ?k2); (case k1 => walk_at "k00e"))
  | ((with_reducible refine' q_par ?k1 ?k2); (case k1 => walk_at "k00a"))
  | ((with_reducible refine' q_par3 ?k1 ?k2); (case k1 => walk_at "k00a")))
local macro_rules | `(tactic| walk_at "k00f") => `(tactic| ((refine' Ev.is ?k1 ?k2); (case k1 => walk_at "k00e"); (case k2 => rfl)))
local macro_rules | `(tactic| walk_at "k00r") => `(tactic| first
  | ((with_reducible refine' ev_small ?k1 ?k2); (case k1 => walk_at "k00a"); (case k2 => rfl))
  | ((with_reducible refine' ev_bank ?k1); (case k1 => walk_at "k00a"))
  | ((with_reducible refine' ev_table ?k1); (case k1 => walk_at "k00a")))
/-- the world, by script, row and tables -/
structure WT where
  ns : List Int
  a : Addr
  r : Addr
  L : Prop
abbrev Wi (K : PySem.W.Frag) (pL : Addr) (i : WT) : Wd := Wl K i.ns i.a i.r i.L [(pL, ("law" ++ ".<locals>.") ++ "<lambda>")]
section
variable {K : PySem.W.Frag} {pL : Addr} {i : WT} {H0 : Hp} {E : List AV} {te tr : TE} {D : Ends} {tz tb : TS} {Ex : XK} {n m l j : Nat} {t : Th}
theorem evA_take {x : Int} (h0 : E[n]? = some (.raw (.ref i.r))) (hn : Ev (Wi K pL i) H0 te E (.f (.int x))) (b : 0 < x ∧ x < 1000000) : EvN (Wi K pL i) H0 (tCall (spAny fun i : WT => spTaken (Wi K pL i) i.r) [] Ex (tCons (tVar n) (tCons te tNil))) E (IntP fun k => 0 ≤ k ∧ k < x) := fun σ H S Q k =>
  (ev_raw h0) σ H S _ fun v H1 n1 q1 => hn.late (S.next n1) fun y H2 n2 q2 => by
    cases q1
    cases q2
    exact ⟨i, x, rfl, b, n2.2, fun z H' h1 h2 n3 => k (.int z) _ H' ⟨z, rfl, h1, h2⟩ ((n1.trans n2).trans n3) (.int z)⟩
/-- one of a list of data without lists within -/
theorem evA_pick {ds : List PyData} (h0 : E[n]? = some (.raw (.ref i.r))) (hl : E[m]? = some (.gen (.list ds))) (hn : ds.all nl2 = true) (b : 0 < ds.length ∧ ds.length < 1000000) : EvN (Wi K pL i) H0 (tCall (spAny fun i : WT => spPick (Wi K pL i) i.r) [] Ex (tCons (tVar n) (tCons (tVar m) tNil))) E (fun d => d ∈ ds) := fun σ H S Q k =>
  (ev_raw h0) σ H S _ fun v H1 n1 q1 => (ev_genL hl hn).late (S.next n1) fun y H2 n2 q2 => by
    cases q1
    obtain ⟨p, xs, rfl, hp, nr, tt⟩ := q2
    refine ⟨i, p, xs, rfl, n2.2, hp, nr, by rw [tt.length]; exact b, fun v H' hv n3 => ?_⟩
    obtain ⟨z, hz⟩ := List.mem_iff_getElem?.mp hv
    obtain ⟨d, e1, e2⟩ := tt.at hz
    exact k d v H' (List.mem_of_getElem? e1) ((n1.trans n2).trans n3) (e2.to n3.1)
theorem q_objA (h0 : E[n]? = some (.raw (.ref i.r))) (k : ∀ t : Th, t.ok → Go (Wi K pL i) H0 tz D (E.set j (.dat t.d))) :
    Go (Wi K pL i) H0 (tSeq (tAsg (tCall (spAny fun i : WT => spObject (Wi K pL i) i.r) [] Ex (tCons (tVar n) tNil)) (gName j)) tz) D E := fun σ H S =>
  (ev_raw h0) σ H S _ fun v H1 n1 q1 => by
    cases q1
    exact ⟨i, rfl, n1.2, fun t v H' ht n2 q => k t ht _ H' (((S.next n1).next n2).dat q)⟩
end
section
variable {W : Wd} {K : PySem.W.Frag} {H0 : Hp} {E : List AV} {ta tb te : TE} {D : Ends} {tz : TS} {i j : Nat} {ds es : List PyData}
/-- i, j = two new lists -/
theorem q_two2 (h1 : Ev W H0 ta E (.l ds)) (h2 : Ev W H0 tb E (.l es)) (k : Go W H0 tz D ((E.set i (.gen (.list ds))).set j (.gen (.list es)))) :
    Go W H0 (tSeq (tAsg (tTup (tCons ta (tCons tb tNil))) (gTup K 2 (gCons (gName i) (gCons (gName j) gNil)))) tz) D E := fun σ H S => h1.late S fun v H1 n1 q1 => h2.late (S.next n1) fun u H2 n2 q2 => by
  refine ⟨sz_le (by show 2 ≤ 100000; decide), fun p hp => ?_⟩
  have e := same_new hp (.tup [v, u])
  have n3 : Nx W H2 (upd H2 p (.tup [v, u])) := .of_same n2.2 e
  refine ⟨p, _, rfl, SqT.of upd_same, rfl, _, _, rfl, _, _, rfl, rfl, ?_⟩
  exact k _ _ ((((S.next n1).next n2).next n3).genq (Late.dq (a := .l ds) ((q1.next n2).next n3) rfl) |>.genq (Late.dq (a := .l es) (q2.next n3) rfl))
end
section
variable {K : PySem.W.Frag} {pL : Addr} {i : WT} {H0 : Hp} {E : List AV} {D : Ends} {tz tb : TS} {Ex : XK} {n m j : Nat}
theorem q_bentA {ds : List PyData} {nm : Str} (h0 : E[n]? = some (.raw (.ref i.r))) (hm : E[m]? = some (.dat (.tuple ds))) (hi : atI ds 0 = some (.str nm)) (hl : ds.length ≤ 3) (hpl : plainE E = true)
    (hs : ∀ H1, Nx (Wi K pL i) H0 H1 → ∀ d, d ∈ bentD nm ds → Go (Wi K pL i) H1 tb { D with nx := fun σ H => Sat (Wi K pL i) H1 E σ H, ct := fun σ H => Sat (Wi K pL i) H1 E σ H, bk := tz D } (E.set j (.gen d))) (k : Go (Wi K pL i) H0 tz D E) :
    Go (Wi K pL i) H0 (tSeq (tFor (iList K (tCall (spAny fun i : WT => spBent (Wi K pL i) i.r) [] Ex (tCons (tVar n) (tCons (tVar m) tNil)))) (gName j) tb) tz) D E := go_seq fun σ H S =>
  (ev_raw h0) σ H S _ fun v H1 n1 q1 => (ev_dat hm).late (S.next n1) fun y H2 n2 q2 => by
    cases q1
    refine ⟨i, nm, ds, y, rfl, n2.2, q2, hi, hl, fun p ys es H' hp' nr tt hmem hlen n3 => ⟨p, rfl, ⟨ys, SqL.of hp'⟩, ?_⟩⟩
    have N := ((S.nx.trans n1).trans n2).trans n3
    have S3 : Sat (Wi K pL i) H' E σ H' := (((S.next n1).next n2).next n3).move hpl (.refl n3.2) n3.2
    refine for_src (W := Wi K pL i) (src := es.map .b) (wi := iList K (tC (.ref p))) (C := fun H => Nx (Wi K pL i) H' H) (P := fun _ σ H => Sat (Wi K pL i) H' E σ H) (src_lstB fun H c => ⟨ys, c.1.lst hp' nr, DqAll.keep c.1 _ _ tt⟩) (fun n σ H q => q.nx) S3 (fun z a x σ2 H4 ha S4 q => ?_) fun σ2 H4 S4 => ?_
    · rw [List.getElem?_map] at ha
      obtain ⟨d, e1, rfl⟩ := Option.map_eq_some_iff.mp ha
      exact hs H' N d (hmem d (List.mem_of_getElem? e1)) _ H4 (S4.genq q)
    · exact k σ2 H4 (S4.move hpl (N.trans S4.nx) S.j0)
end
section
variable {W : Wd} {H0 : Hp} {E : List AV} {ta : TA} {t u : TE} {Ex : XK} {Z : Hp → Prop} {as bs : List AR} {C f : Addr} {i : Nat}
theorem evx_callL {rel : List AR → AR → Prop} {bad : List AR → Addr → Prop} (h0 : E[i]? = some (.raw (.ref f))) (h : EvA W H0 ta E as) (hc : Coes as bs) (r : bad bs C) : EvX W H0 (tCallL i f (PrX rel bad) [] Ex ta) E (fun H' => Ex (.ref C) none H') := fun σ H S k Q => by
  obtain ⟨o, e1, e2⟩ := S.slot h0
  exact ⟨by rw [e1]; exact congrArg some e2, evx_call (Ex := Ex) h hc r σ H S k Q⟩
theorem evx_l (h : EvX W H0 t E Z) : EvX W H0 (fun σ H Q => t σ H Q ∨ u σ H Q) E Z := fun σ H S k Q => .inl (h σ H S k Q)
theorem evx_r (h : EvX W H0 u E Z) : EvX W H0 (fun σ H Q => t σ H Q ∨ u σ H Q) E Z := fun σ H S k Q => .inr (h σ H S k Q)
end
end K00

/-! Part V. -/
set_option Elab.async false
set_option linter.all false
set_option autoImplicit false
set_option maxRecDepth 100000
set_option maxHeartbeats 4000000
/-! What bent objects are made of. -/
namespace K00
open PySem PySem.Spec PyProof.Rows L2
theorem nl_of : ∀ {ds : List PyData}, (∀ d ∈ ds, nlD d = true) → nlAll ds = true
  | [], _ => rfl
  | d :: ds, h => by
    simp only [nlAll, Bool.and_eq_true]
    exact ⟨h d List.mem_cons_self, nl_of fun x hx => h x (List.mem_cons_of_mem _ hx)⟩
theorem nl_each : ∀ {ds : List PyData}, nlAll ds = true → ∀ d ∈ ds, nlD d = true
  | [], _, d, h => by cases h
  | e :: ds, h, d, hd => by
    simp only [nlAll, Bool.and_eq_true] at h
    rcases List.mem_cons.mp hd with rfl | hd
    · exact h.1
    · exact nl_each h.2 d hd
theorem nl_iv (ns : List Int) : nlAll (ns.map .int) = true := nl_of fun d hd => by
  obtain ⟨k, _, rfl⟩ := List.mem_map.mp hd
  rfl
theorem nl_tup {ds : List PyData} (h : nlAll ds = true) : nlD (.tuple ds) = true := by
  simp only [nlD]
  exact h
theorem Th.parts (t : Th) : ∃ nm ds, t.d = .tuple ds ∧ atI ds 0 = some (.str nm) ∧ ds.length ≤ 3 ∧ ShAll 5 ds ∧ nlAll ds = true ∧ PyData.canLay0 (.str nm) = true := by
  have two : ∀ (s : Str) (m : Int), PyData.canLay0 (.str s) = true → ∃ nm ds, PyData.tuple [.str s, .int m] = .tuple ds ∧ atI ds 0 = some (.str nm) ∧ ds.length ≤ 3 ∧ ShAll 5 ds ∧ nlAll ds = true ∧ PyData.canLay0 (.str nm) = true := fun s m h =>
    ⟨s, _, rfl, rfl, by show 2 ≤ 3; decide, .cons (Sh.str h) (.cons (Sh.int m) .nil), rfl, h⟩
  have three : ∀ (s : Str) (m n : Int), PyData.canLay0 (.str s) = true → ∃ nm ds, PyData.tuple [.str s, .int m, .int n] = .tuple ds ∧ atI ds 0 = some (.str nm) ∧ ds.length ≤ 3 ∧ ShAll 5 ds ∧ nlAll ds = true ∧ PyData.canLay0 (.str nm) = true := fun s m n h =>
    ⟨s, _, rfl, rfl, by show 3 ≤ 3; decide, .cons (Sh.str h) (.cons (Sh.int m) (.cons (Sh.int n) .nil)), rfl, h⟩
  cases t with
  | counter m => exact two _ m (by decide +kernel)
  | register m => exact two _ m (by decide +kernel)
  | set m => exact two _ m (by decide +kernel)
  | agree m => exact two _ m (by decide +kernel)
  | stack r m => exact three _ r m (by decide +kernel)
  | queue r m => exact three _ r m (by decide +kernel)
  | bank ns =>
    refine ⟨"bank", _, rfl, rfl, by show 2 ≤ 3; decide, .cons (Sh.str (by decide +kernel)) (.cons ((ShAll.ints ns).tup) .nil), ?_, by decide +kernel⟩
    simp only [nlAll, nlD, nl_iv]
    rfl
  | table rows =>
    have hp : ∀ p : Int × Int, Sh 2 (pairP p) := fun p => (ShAll.cons (Sh.int _) (.cons (Sh.int _) .nil)).tup
    have hr : ∀ r : List (Int × Int), Sh 3 (rowP r) := fun r => (ShAll.of fun d hd => by
      obtain ⟨p, _, rfl⟩ := List.mem_map.mp hd
      exact hp p).tup
    have hrs : Sh 5 (.tuple (rows.map rowP)) := (Sh.mono (n := 4) ((ShAll.of fun d hd => by
      obtain ⟨r, _, rfl⟩ := List.mem_map.mp hd
      exact hr r).tup) (by decide))
    have np : ∀ r : List (Int × Int), nlD (rowP r) = true := fun r => nl_tup (nl_of fun d hd => by
      obtain ⟨p, _, rfl⟩ := List.mem_map.mp hd
      rfl)
    have nrs : nlAll (rows.map rowP) = true := nl_of fun d hd => by
      obtain ⟨r, _, rfl⟩ := List.mem_map.mp hd
      exact np r
    refine ⟨"table", _, rfl, rfl, by show 2 ≤ 3; decide, .cons (Sh.str (by decide +kernel)) (.cons hrs .nil), ?_, by decide +kernel⟩
    simp only [nlAll, nlD, nrs]
    rfl
theorem cut_sub (ds : List PyData) (lo hi : Option Int) : ∀ d ∈ cutD ds lo hi, d ∈ ds := fun d hd => List.mem_of_mem_drop (List.mem_of_mem_take hd)
theorem bent_ok {nm : Str} {ds : List PyData} (hs : ShAll 5 ds) (hn : nlAll ds = true) (hc : PyData.canLay0 (.str nm) = true) : ∀ d ∈ bentD nm ds, Sh 41 d ∧ (nlD d = true ∨ d = .list ds) := by
  have sc : ∀ x : PyData, PyData.canLay0 x = true → x.depth ≤ 10 → Sh 40 x := fun x a b => ⟨a, by omega⟩
  have snm : ∀ r : List PyData, ShAll 40 r → Sh 41 (.tuple (.str nm :: r)) := fun r h => (ShAll.cons (Sh.str hc) h).tup
  have h40 : ShAll 40 ds := .of fun d hd => (hs.each d hd).mono (by decide)
  have fin : ∀ r : List PyData, PyData.canLayAll0 r = true → PyData.depthAll r ≤ 10 → nlAll r = true → Sh 41 (.tuple (.str nm :: r)) ∧ (nlD (.tuple (.str nm :: r)) = true ∨ PyData.tuple (.str nm :: r) = .list ds) := fun r a b c =>
    ⟨snm r ⟨a, by omega⟩, .inl (nl_tup (by simp only [nlAll, nlD, c, Bool.and_true]))⟩
  have clo : ∀ x : PyData, PyData.canLay0 x = true → x.depth ≤ 10 → nlD x = true → Sh 41 x ∧ (nlD x = true ∨ x = .list ds) := fun x a b c => ⟨⟨a, by omega⟩, .inl c⟩
  intro d hd
  simp only [bentD, List.mem_append, List.mem_cons, List.not_mem_nil, or_false] at hd
  rcases hd with ((rfl | rfl | rfl | rfl | rfl | rfl | rfl | rfl | rfl | rfl) | (rfl | rfl | rfl | rfl | rfl | rfl | rfl)) | (rfl | rfl | rfl | rfl | rfl | rfl | rfl | rfl | rfl | rfl)
  · exact ⟨h40.tup, .inl (nl_tup hn)⟩
  · exact ⟨h40.lst, .inr rfl⟩
  · exact ⟨(h40.append (.cons (Sh.int 1) .nil)).tup, .inl (nl_tup (nl_of fun x hx => by
      rcases List.mem_append.mp hx with z | z
      · exact nl_each hn x z
      · rw [List.mem_singleton.mp z]
        rfl))⟩
  · exact ⟨(ShAll.of fun x hx => h40.each x (cut_sub _ _ _ x hx)).tup, .inl (nl_tup (nl_of fun x hx => nl_each hn x (cut_sub _ _ _ x hx)))⟩
  all_goals first
    | exact fin _ (by decide +kernel) (by decide +kernel) (by decide +kernel)
    | exact clo _ (by decide +kernel) (by decide +kernel) (by decide +kernel)
theorem go_arg {W : Wd} {H0 : Hp} {E : List AV} {ts : TS} {D : Ends} {i : Nat} {d : PyData} (hi : i < E.length) (h : nlD d = true ∨ ∃ ds, d = .list ds) (g : ∀ x, argV x d → Go W H0 ts D (E.set i x)) : Go W H0 ts D (E.set i (.gen d)) := by
  rcases h with h | ⟨ds, rfl⟩
  · refine go_nl (i := i) (List.getElem?_set_self hi) h ?_
    rw [List.set_set]
    exact g _ (.inl rfl)
  · exact g _ (.inr ⟨ds, .inr rfl, rfl⟩)
theorem argV_rd {x : AV} {d : PyData} (hx : argV x d) : ∃ a : AR, a.d = some d ∧ (a = .f d ∨ ((∃ ds, a.d = some (.list ds)) ∧ a.d = some d)) ∧ ∀ (W : Wd) (H0 : Hp) (E : List AV) (i : Nat), E[i]? = some x → Ev W H0 (tVar i) E a := by
  rcases hx with rfl | ⟨ds, rfl | rfl, rfl⟩
  · exact ⟨.f d, rfl, .inl rfl, fun W H0 E i h => ev_dat h⟩
  · exact ⟨.b (.list ds), rfl, .inr ⟨⟨ds, rfl⟩, rfl⟩, fun W H0 E i h => ev_arg h⟩
  · exact ⟨.b (.list ds), rfl, .inr ⟨⟨ds, rfl⟩, rfl⟩, fun W H0 E i h => ev_gen h⟩
theorem q_parNN {W : Wd} {H0 : Hp} {E : List AV} {D : Ends} {tz : TS} {ta tb : TE} {P P' : PyData → Prop} {i j : Nat} (h1 : EvN W H0 ta E P) (h2 : EvN W H0 tb E P') (k : ∀ d e, P d → P' e → Go W H0 tz D ((E.set i (.dat d)).set j (.dat e))) :
    Go W H0 (tSeq (tPar i j (tCons ta (tCons tb tNil))) tz) D E := go_seq fun σ H S => h1 σ H S _ fun d v H1 p1 n1 q1 => h2 σ H1 (S.next n1) _ fun e u H2 p2 n2 q2 => ⟨v, u, rfl, k d e p1 p2 _ H2 ((((S.next n1).next n2).dat (q1.to n2.1)).dat q2)⟩
/-- an answer -/
def isAns (d : PyData) : Bool := match d with
  | .none => true
  | .int _ => true
  | .bool _ => true
  | _ => false
theorem ans_sh {d : PyData} (h : isAns d = true) (n : Nat) : Sh n d ∧ ∀ m, fits (m + 1) d = true := by
  cases d with
  | none => exact ⟨Sh.none, fun _ => rfl⟩
  | int k => exact ⟨Sh.int k, fun _ => rfl⟩
  | bool b => exact ⟨Sh.bool b, fun _ => rfl⟩
  | _ => cases h
theorem step_ans (t : Th) (s : Sta) (c : Cal) : isAns (t.step s c).2 = true := by
  unfold Th.step
  split
  all_goals first
    | rfl
    | (split <;> first | rfl | (split <;> first | rfl | (split <;> rfl)))
theorem stepD_all {t : Th} {s : Sta} {c : Cal} (h : t.ok) (hs : t.okS s) (hc : c ∈ t.calls) : fits 7 (t.stepD s c) = true ∧ Sh 40 (t.stepD s c) := by
  have a := ans_sh (step_ans t s c) 39
  have f := fits_sta (okS_len h (Th.step_ok h hs hc)) 4
  constructor
  · show (decide (2 ≤ 50000) && (fits 6 (t.step s c).1.d && (fits 6 (t.step s c).2 && true))) = true
    rw [f, a.2 5]
    rfl
  · exact (ShAll.cons ((Sta.sh _).mono (by decide)) (.cons a.1 .nil)).tup
/-- a call's parts -/
def Cal.ps (c : Cal) : List PyData := .str c.w :: c.ns.map .int
/-- what the law asks whether it is a call -/
def someD (c : Cal) : List PyData := [.tuple [], .tuple [.str "add"], .tuple [.str "look", .int 1, .int 2], .tuple (c.ps ++ [.int 1]), .list c.ps, .tuple (cutD c.ps none (some 1)), .tuple [.str c.w, .bool true], .none, .str "look", .tuple [.str "do", .int 9], .tuple [.str "move", .int 0, .int 0, .int 1]]
theorem ps_ok {t : Th} {c : Cal} (h : c ∈ t.calls) : ShAll 10 c.ps ∧ nlAll c.ps = true ∧ c.ps.length ≤ 1000 := by
  have v := cal_vl h
  refine ⟨.cons (Sh.str (Th.okC_str (Th.okC_of h))) (ShAll.ints c.ns), ?_, v.2 _ rfl⟩
  simp only [Cal.ps, nlAll, nlD, nl_iv]
  rfl
theorem some_ok {t : Th} {c : Cal} (h : c ∈ t.calls) (hl : c.ns.length ≤ 10) : ∀ d ∈ someD c, Vl d ∧ (nlD d = true ∨ d = .list c.ps) := by
  obtain ⟨sh, nl, len⟩ := ps_ok h
  have lps : c.ps.length ≤ 11 := by simp [Cal.ps]; omega
  have h49 : ShAll 49 c.ps := .of fun d hd => (sh.each d hd).mono (by decide)
  have clo : ∀ ds : List PyData, PyData.canLay0 (.tuple ds) = true → (PyData.tuple ds).depth ≤ 10 → nlD (.tuple ds) = true → ds.length ≤ 1000 → Vl (.tuple ds) ∧ (nlD (.tuple ds) = true ∨ PyData.tuple ds = .list c.ps) := fun ds a b n l => ⟨⟨⟨a, by omega⟩, fun es e => by cases e; exact l⟩, .inl n⟩
  intro d hd
  simp only [someD, List.mem_cons, List.not_mem_nil, or_false] at hd
  rcases hd with rfl | rfl | rfl | rfl | rfl | rfl | rfl | rfl | rfl | rfl | rfl
  · exact clo _ (by decide +kernel) (by decide +kernel) (by decide +kernel) (by decide)
  · exact clo _ (by decide +kernel) (by decide +kernel) (by decide +kernel) (by decide)
  · exact clo _ (by decide +kernel) (by decide +kernel) (by decide +kernel) (by decide)
  · refine ⟨⟨(h49.append (.cons (Sh.int 1) .nil)).tup, fun es e => ?_⟩, .inl (nl_tup (nl_of fun x hx => ?_))⟩
    · cases e
      rw [List.length_append]
      simp
      omega
    · rcases List.mem_append.mp hx with z | z
      · exact nl_each nl x z
      · rw [List.mem_singleton.mp z]
        rfl
  · exact ⟨⟨h49.lst, fun es e => by cases e⟩, .inr rfl⟩
  · refine ⟨⟨(ShAll.of fun x hx => h49.each x (cut_sub _ _ _ x hx)).tup, fun es e => ?_⟩, .inl (nl_tup (nl_of fun x hx => nl_each nl x (cut_sub _ _ _ x hx)))⟩
    cases e
    unfold cutD
    rw [List.length_take, List.length_drop]
    omega
  · exact ⟨⟨(ShAll.cons (Sh.str (Th.okC_str (Th.okC_of h))) (.cons (Sh.bool true) .nil)).tup, fun es e => by cases e; show 2 ≤ 1000; decide⟩, .inl rfl⟩
  · exact ⟨⟨Sh.none, fun es e => by cases e⟩, .inl rfl⟩
  · exact ⟨⟨Sh.str (by decide +kernel), fun es e => by cases e⟩, .inl rfl⟩
  · exact clo _ (by decide +kernel) (by decide +kernel) (by decide +kernel) (by decide)
  · exact clo _ (by decide +kernel) (by decide +kernel) (by decide +kernel) (by decide)
theorem cal_ns10 {t : Th} {c : Cal} (h : c ∈ t.calls) : c.ns.length ≤ 10 := by
  have hc := Th.okC_of h
  cases t with
  | counter m => rcases hc with rfl | ⟨k, hk, rfl⟩ <;> simp
  | register m => rcases hc with rfl | ⟨k, hk, rfl | rfl⟩ <;> simp
  | stack r m => rcases hc with rfl | ⟨k, hk, rfl⟩ <;> simp
  | queue r m => rcases hc with rfl | ⟨k, hk, rfl⟩ <;> simp
  | set m => rcases hc with ⟨k, hk, rfl | rfl | rfl⟩ <;> simp
  | agree m => rcases hc with ⟨k, hk, rfl⟩; simp
  | bank bs => rcases hc with ⟨k, hk, rfl⟩ | ⟨a, b, x, _, _, _, _, rfl⟩ <;> simp
  | table rows => rcases hc with ⟨k, hk, rfl⟩; simp
theorem any_calls (t : Th) (d : PyData) : ((t.calls.map Cal.d).any fun z => PyData.eqv z d) = (t.callsU.map Cal.d).any fun z => PyData.eqv z d := by
  rw [Bool.eq_iff_iff, List.any_eq_true, List.any_eq_true]
  constructor
  · rintro ⟨x, hx, e⟩
    obtain ⟨c, hc, rfl⟩ := List.mem_map.mp hx
    exact ⟨c.d, List.mem_map.mpr ⟨c, Th.mem_calls.mp hc, rfl⟩, e⟩
  · rintro ⟨x, hx, e⟩
    obtain ⟨c, hc, rfl⟩ := List.mem_map.mp hx
    exact ⟨c.d, List.mem_map.mpr ⟨c, Th.mem_calls.mpr hc, rfl⟩, e⟩
/-- the first that equals d -/
theorem first_eq {t : Th} {d : PyData} (h : ((t.calls.map Cal.d).any fun z => PyData.eqv z d) = true) : ∃ c ∈ t.calls, PyData.eqv c.d d = true ∧ atI (((t.calls.map Cal.d).filter fun z => PyData.eqv z d).map id) 0 = some c.d := by
  rw [List.map_id]
  cases e : (t.calls.map Cal.d).filter fun z => PyData.eqv z d with
  | nil =>
    rw [List.filter_eq_nil_iff] at e
    obtain ⟨x, hx, hxe⟩ := List.any_eq_true.mp h
    exact absurd hxe (e x hx)
  | cons a r =>
    have ha : a ∈ (t.calls.map Cal.d).filter fun z => PyData.eqv z d := by rw [e]; exact List.mem_cons_self
    obtain ⟨h1, h2⟩ := List.mem_filter.mp ha
    obtain ⟨c, hc, rfl⟩ := List.mem_map.mp h1
    exact ⟨c, hc, h2, atI_nat rfl⟩
theorem no_list {t : Th} (ds : List PyData) : ((t.calls.map Cal.d).any fun z => PyData.eqv z (.list ds)) = false := by
  rw [List.any_eq_false]
  intro x hx
  obtain ⟨c, _, rfl⟩ := List.mem_map.mp hx
  show ¬ PyData.eqv (.tuple _) (.list ds) = true
  simp [PyData.eqv]
end K00

/-! Part Y. -/
set_option Elab.async false
set_option linter.all false
set_option autoImplicit false
set_option maxRecDepth 100000
set_option maxHeartbeats 4000000
/-! The law's second half, statement by statement. -/
namespace K00
open PySem PySem.Spec PyProof.Rows L2
/-! data -/
theorem ev_neS {W : Wd} {H0 : Hp} {E : List AV} {ta tb : TE} {x y : Str} (ha : Ev W H0 ta E (.f (.str x))) (hb : Ev W H0 tb E (.f (.str y))) : Ev W H0 (tOp rNe ta tb) E (.f (.bool (!decide (x = y)))) := ev_op ha hb fun v u H j q1 q2 Q k => by
  cases q1
  cases q2
  refine ⟨rfl, ?_⟩
  have e : decide (V.str x = V.str y) = decide (x = y) := by
    by_cases h : x = y
    · rw [h]
      simp
    · rw [decide_eq_false h, decide_eq_false fun z => h (V.str.inj z)]
  rw [e]
  exact k _ H (.refl j) (.bl _)
theorem Th.calls_len {t : Th} (h : t.ok) : 1 ≤ t.calls.length ∧ t.calls.length ≤ 100 := by
  cases t with
  | counter m => rcases two4 h with rfl | rfl | rfl <;> decide +kernel
  | register m => rcases two4 h with rfl | rfl | rfl <;> decide +kernel
  | stack r m =>
    have e : (Th.stack r m).calls = (Th.stack 0 m).calls := rfl
    rw [e]
    rcases one2 h.2 with rfl | rfl <;> decide +kernel
  | queue r m =>
    have e : (Th.queue r m).calls = (Th.queue 0 m).calls := rfl
    rw [e]
    rcases one2 h.2 with rfl | rfl <;> decide +kernel
  | set m => rcases two3 h with rfl | rfl <;> decide +kernel
  | agree m => rcases two3 h with rfl | rfl <;> decide +kernel
  | bank ns =>
    show 1 ≤ (bankC ns.length).length ∧ (bankC ns.length).length ≤ 100
    rcases h.1 with e | e <;> rw [e] <;> decide +kernel
  | table rows =>
    obtain ⟨_, w1, w2⟩ := row_wide h
    show 1 ≤ ((iv 0 (rows.headD []).length).map fun k => (⟨"do", [k]⟩ : Cal)).length ∧ ((iv 0 (rows.headD []).length).map fun k => (⟨"do", [k]⟩ : Cal)).length ≤ 100
    rw [List.length_map]
    unfold iv
    rw [List.length_map, List.length_range]
    omega
theorem cal_ns {t : Th} {l : Cal} (h : l ∈ t.calls) : l.ns.length ≤ 1000 := by
  have := (cal_vl h).2 _ rfl
  simp at this
  omega
theorem Th.calls_all {t : Th} (h : t.ok) : fits 7 (.tuple (t.calls.map Cal.d)) = true ∧ Sh 40 (.tuple (t.calls.map Cal.d)) := by
  have hl := Th.calls_len h
  constructor
  · show (decide ((t.calls.map Cal.d).length ≤ 50000) && (t.calls.map Cal.d).all (fits 6)) = true
    rw [Bool.and_eq_true, decide_eq_true_eq, List.length_map, List.all_eq_true]
    refine ⟨by omega, fun d hd => ?_⟩
    obtain ⟨l, hl2, rfl⟩ := List.mem_map.mp hd
    exact fits_cal (cal_ns hl2) 4
  · exact ((Sh.ofLst (callsS_sh t)).tup).mono (by decide)
theorem Th.states_all {t : Th} (h : t.ok) : fits 7 (.tuple (t.states.map Sta.d)) = true ∧ Sh 40 (.tuple (t.states.map Sta.d)) := by
  have hl := (Th.states_inv h).len h
  constructor
  · show (decide ((t.states.map Sta.d).length ≤ 50000) && (t.states.map Sta.d).all (fits 6)) = true
    rw [Bool.and_eq_true, decide_eq_true_eq, List.length_map, List.all_eq_true]
    refine ⟨by omega, fun d hd => ?_⟩
    obtain ⟨s, hs, rfl⟩ := List.mem_map.mp hd
    exact fits_sta (okS_len h ((Th.states_inv h).ok s hs)) 4
  · exact ((Sh.ofLst (stas_sh t.states)).tup).mono (by decide)
theorem ps_sh {t : Th} {c : Cal} (h : c ∈ t.calls) : Sh 11 c.d := (ps_ok h).1.tup
theorem some_sh {t : Th} {c : Cal} (h : c ∈ t.calls) : ∀ d ∈ someD c, Sh 40 d := by
  obtain ⟨sh, nl, len⟩ := ps_ok h
  have h39 : ShAll 39 c.ps := .of fun d hd => (sh.each d hd).mono (by decide)
  have clo : ∀ d : PyData, PyData.canLay0 d = true → d.depth ≤ 10 → Sh 40 d := fun d a b => ⟨a, by omega⟩
  intro d hd
  simp only [someD, List.mem_cons, List.not_mem_nil, or_false] at hd
  rcases hd with rfl | rfl | rfl | rfl | rfl | rfl | rfl | rfl | rfl | rfl | rfl
  · exact clo _ (by decide +kernel) (by decide +kernel)
  · exact clo _ (by decide +kernel) (by decide +kernel)
  · exact clo _ (by decide +kernel) (by decide +kernel)
  · exact (h39.append (.cons (Sh.int 1) .nil)).tup
  · exact h39.lst
  · exact (ShAll.of fun x hx => h39.each x (cut_sub _ _ _ x hx)).tup
  · exact (ShAll.cons (Sh.str (Th.okC_str (Th.okC_of h))) (.cons (Sh.bool true) .nil)).tup
  · exact Sh.none
  · exact Sh.str (by decide +kernel)
  · exact clo _ (by decide +kernel) (by decide +kernel)
  · exact clo _ (by decide +kernel) (by decide +kernel)
theorem isCall_and (t : Th) (d : PyData) : (((t.calls.map Cal.d).any fun z => PyData.eqv z d) && plainD d) = t.isCall d := by
  unfold Th.isCall
  rw [any_calls, Bool.and_comm]
theorem ev_genA {W : Wd} {H0 : Hp} {E : List AV} {i : Nat} {d : PyData} (h : E[i]? = some (.gen d)) (e : nlD d = true ∨ ∃ ds, d = .list ds) : ∃ a, Ev W H0 (tVar i) E a ∧ isArg a d := by
  rcases e with e | ⟨ds, rfl⟩
  · refine ⟨.f d, fun σ H S Q k => ?_, .inl rfl⟩
    obtain ⟨o, e1, v, e2, q⟩ := S.slot h
    exact ⟨v, by rw [e1, e2], k v H (.refl S.j) (Dq.nl d v q e)⟩
  · exact ⟨.b (.list ds), ev_gen h, .inr ⟨ds, rfl, rfl⟩⟩
theorem first_sh (t : Th) : Sh 40 t.first.d := (Sta.sh _).mono (by decide)
/-! what the slots hold -/
abbrev EL (a r : Addr) (t : Th) (v3 v5 v9 v10 v11 v12 : AV) : List AV := [.raw (.ref a), .raw (.ref r), .dat t.d, v3, .no, v5, .no, .gen (.list (t.calls.map Cal.d)), .gen (.list (t.states.map Sta.d)), v9, v10, v11, v12, .no, .no, .no, .no]
section
variable {W : Wd} {H0 : Hp} {K : PySem.W.Frag} {E : List AV} {t : Th} {c0 : Cal}
theorem ev_name0 (h : E[7]? = some (.gen (.list (t.calls.map Cal.d)))) (hc0 : t.calls[0]? = some c0) : Ev W H0 (tOp (rIxL K) (tVar 7) (tC (.int 0))) E (.f (.tuple c0.ps)) :=
  ev_ixL (ev_genL h (cals_nl _)) ev_int (.inr rfl) (atI_nat (by rw [List.getElem?_map, hc0]; rfl))
theorem ev_line0 (h : E[8]? = some (.gen (.list (t.states.map Sta.d)))) : Ev W H0 (tOp (rIxL K) (tVar 8) (tC (.int 0))) E (.f t.first.d) :=
  ev_ixL (ev_genL h (stas_nl _)) ev_int (.inr rfl) (atI_nat (by rw [List.getElem?_map, Th.states_head t]; rfl))
theorem ev_some (h : E[7]? = some (.gen (.list (t.calls.map Cal.d)))) (hc0 : t.calls[0]? = some c0) (l10 : c0.ns.length ≤ 10) :
    Ev W H0 (tLst (tCons (tTup tNil) (tCons (tTup (tCons (tC (.str "add")) tNil)) (tCons (tTup (tCons (tC (.str "look")) (tCons (tC (.int 1)) (tCons (tC (.int 2)) tNil)))) (tCons (tOp (rCatA K) (tOp (rIxL K) (tVar 7) (tC (.int 0))) (tTup (tCons (tC (.int 1)) tNil)))
      (tCons (tCB (rLstZ K) (tCons (tOp (rIxL K) (tVar 7) (tC (.int 0))) tNil)) (tCons (tSl (rSlA K) (tOp (rIxL K) (tVar 7) (tC (.int 0))) tNoPart (tPart (tC (.int 1)))) (tCons (tTup (tCons (tOp (rIxT K) (tOp (rIxL K) (tVar 7) (tC (.int 0))) (tC (.int 0))) (tCons (tC (.bl true)) tNil)))
      (tCons (tC .non) (tCons (tC (.str "look")) (tCons (tTup (tCons (tC (.str "do")) (tCons (tC (.int 9)) tNil))) (tCons (tTup (tCons (tC (.str "move")) (tCons (tC (.int 0)) (tCons (tC (.int 0)) (tCons (tC (.int 1)) tNil))))) tNil)))))))))))) E (.m (someD c0)) := by
  have n0 := fun {H0 : Hp} => ev_name0 (W := W) (H0 := H0) (K := K) h hc0
  have hl : c0.ps.length ≤ 11 := by simp [Cal.ps]; omega
  have e1 : Ev W H0 (tTup tNil) E (.f (.tuple [])) := ev_tup (as := []) eva_nil rfl (by decide)
  have e2 : Ev W H0 (tTup (tCons (tC (.str "add")) tNil)) E (.f (.tuple [.str "add"])) := ev_tup (as := [.f (.str "add")]) (eva_cons ev_str eva_nil) rfl (by decide)
  have e3 : Ev W H0 (tTup (tCons (tC (.str "look")) (tCons (tC (.int 1)) (tCons (tC (.int 2)) tNil)))) E (.f (.tuple [.str "look", .int 1, .int 2])) := ev_tup (as := [.f (.str "look"), .f (.int 1), .f (.int 2)]) (eva_cons ev_str (eva_cons ev_int (eva_cons ev_int eva_nil))) rfl (by decide)
  have e4a : Ev W H0 (tTup (tCons (tC (.int 1)) tNil)) E (.f (.tuple [.int 1])) := ev_tup (as := [.f (.int 1)]) (eva_cons ev_int eva_nil) rfl (by decide)
  have e4 : Ev W H0 (tOp (rCatA K) (tOp (rIxL K) (tVar 7) (tC (.int 0))) (tTup (tCons (tC (.int 1)) tNil))) E (.f (.tuple (c0.ps ++ [.int 1]))) := ev_catT n0 e4a (by show c0.ps.length + 1 ≤ 100000; omega)
  have e5 : Ev W H0 (tCB (rLstZ K) (tCons (tOp (rIxL K) (tVar 7) (tC (.int 0))) tNil)) E (.l c0.ps) := ev_lstOf n0
  have e6 : Ev W H0 (tSl (rSlA K) (tOp (rIxL K) (tVar 7) (tC (.int 0))) tNoPart (tPart (tC (.int 1)))) E (.f (.tuple (cutD c0.ps none (some 1)))) := ev_slT n0 evo_no (evo_some ev_int)
  have e7a : Ev W H0 (tOp (rIxT K) (tOp (rIxL K) (tVar 7) (tC (.int 0))) (tC (.int 0))) E (.f (.str c0.w)) := ev_ixT n0 ev_int (atI_nat rfl)
  have e7 : Ev W H0 (tTup (tCons (tOp (rIxT K) (tOp (rIxL K) (tVar 7) (tC (.int 0))) (tC (.int 0))) (tCons (tC (.bl true)) tNil))) E (.f (.tuple [.str c0.w, .bool true])) := ev_tup (as := [.f (.str c0.w), .f (.bool true)]) (eva_cons e7a (eva_cons ev_bl eva_nil)) rfl (by show 2 ≤ 100000; decide)
  have e10 : Ev W H0 (tTup (tCons (tC (.str "do")) (tCons (tC (.int 9)) tNil))) E (.f (.tuple [.str "do", .int 9])) := ev_tup (as := [.f (.str "do"), .f (.int 9)]) (eva_cons ev_str (eva_cons ev_int eva_nil)) rfl (by decide)
  have e11 : Ev W H0 (tTup (tCons (tC (.str "move")) (tCons (tC (.int 0)) (tCons (tC (.int 0)) (tCons (tC (.int 1)) tNil))))) E (.f (.tuple [.str "move", .int 0, .int 0, .int 1])) := ev_tup (as := [.f (.str "move"), .f (.int 0), .f (.int 0), .f (.int 1)]) (eva_cons ev_str (eva_cons ev_int (eva_cons ev_int (eva_cons ev_int eva_nil)))) rfl (by decide)
  exact ev_lstM (as := [.f (.tuple []), .f (.tuple [.str "add"]), .f (.tuple [.str "look", .int 1, .int 2]), .f (.tuple (c0.ps ++ [.int 1])), .l c0.ps, .f (.tuple (cutD c0.ps none (some 1))), .f (.tuple [.str c0.w, .bool true]), .f .none, .f (.str "look"), .f (.tuple [.str "do", .int 9]), .f (.tuple [.str "move", .int 0, .int 0, .int 1])])
    (eva_cons e1 (eva_cons e2 (eva_cons e3 (eva_cons e4 (eva_cons e5 (eva_cons e6 (eva_cons e7 (eva_cons ev_non (eva_cons ev_str (eva_cons e10 (eva_cons e11 eva_nil))))))))))) rfl (by show 11 ≤ 100000; decide)
end

/-! whether it is a call -/
section
variable {K : PySem.W.Frag} {pL : Addr} {i : WT} {H0 : Hp} {t : Th} {c0 : Cal} {d : PyData} {D : Ends} {CO CS CC : Addr} {a r : Addr} {v5 v9 v10 v11 v12 : AV} {tz : TS}
theorem ev_good {W : Wd} {x : AV} (ht : t.ok) (hx : argV x d) (hv : Vl d) (sh : Sh 40 d) :
    Ev W H0 (tAndV (tOp (rInD K) (tVar 3) (tVar 7)) (tCall (Pr (relAlike 7)) [] E0 (tCons (tVar 3) (tCons (tOp (rIxL K) (tLc (iList K (tVar 7)) (gName 16) (tTest (tOp (rEqD K) (tVar 16) (tVar 3))) (tVar 16) [16]) (tC (.int 0))) tNil)))) (EL a r t x v5 v9 v10 v11 v12) (.f (.bool (t.isCall d))) := by
  obtain ⟨y, hy, hy1, hy2⟩ := ev_argV (W := W) (H0 := H0) (E := EL a r t x v5 v9 v10 v11 v12) (i := 3) rfl hx
  have g7 : ∀ {H0 : Hp}, Ev W H0 (tVar 7) (EL a r t x v5 v9 v10 v11 v12) (.g (t.calls.map Cal.d)) := ev_genL rfl (cals_nl _)
  have h1 : Ev W H0 (tOp (rInD K) (tVar 3) (tVar 7)) (EL a r t x v5 v9 v10 v11 v12) (.f (.bool ((t.calls.map Cal.d).any fun z => PyData.eqv z d))) := ev_inD hy g7 hy1 rfl hv.1.shaped (callsS_sh t).shaped
  refine Ev.is (ev_andV (y := plainD d) h1 fun hany => ?_) (by rw [isCall_and])
  rcases hx with rfl | ⟨ds, _, rfl⟩
  · obtain ⟨c, hc, e1, e2⟩ := first_eq hany
    have al : alikeN 7 d c.d = plainD d := alike_call (n := 5) e1
    have lc : Ev W H0 (tLc (iList K (tVar 7)) (gName 16) (tTest (tOp (rEqD K) (tVar 16) (tVar 3))) (tVar 16) [16]) (EL a r t (.dat d) v5 v9 v10 v11 v12) (.l (((t.calls.map Cal.d).filter fun z => PyData.eqv z d).map id)) := by
      refine ev_lc (fun z => PyData.eqv z d) id (evi_lst g7 (.inr rfl)) (by decide) ?_ (fun e he => ?_) fun e he hf => ev_dat rfl
      · have := Th.calls_len ht
        rw [List.length_map]
        omega
      · obtain ⟨c', hc', rfl⟩ := List.mem_map.mp he
        exact et_test (ev_eqD (ev_dat rfl) (ev_dat rfl) rfl rfl (ps_sh hc').shaped hv.1.shaped)
    refine Ev.is (ev_alike (n := 7) (d := d) (e := c.d) (eva_cons (ev_dat rfl) (eva_cons (ev_ixL lc ev_int (.inl rfl) e2) eva_nil)) (fits_cal (cal_ns hc) 5) sh ((ps_sh hc).mono (by decide))) (by rw [al])
  · rw [no_list] at hany
    cases hany
end
end K00

/-! Part Q. -/
set_option Elab.async false
set_option linter.all false
set_option autoImplicit false
set_option maxRecDepth 100000
set_option maxHeartbeats 4000000
/-! The law's second half, its loops' turns. -/
namespace K00
open PySem PySem.Spec PyProof.Rows L2
abbrev WiT (pL : Addr) : List (Addr × Str) := [(pL, ("law" ++ ".<locals>.") ++ "<lambda>")]
section
variable {K : PySem.W.Frag} {pL : Addr} {i : WT} {H0 : Hp} {t : Th} {c0 : Cal} {d : PyData} {D : Ends} {CO CS CC : Addr} {a r : Addr} {v5 v9 v10 v11 v12 : AV} {tz : TS}
/-- one value asked whether it is a call -/
theorem go_ask (ht : t.ok) (cO : PySem.W.exmOne K (.ref CC) (.ref CO) = some false) (cS : PySem.W.exmOne K (.ref CC) (.ref CS) = some false) (cC : PySem.W.exmOne K (.ref CC) (.ref CC) = some true)
    (hv : Vl d) (sh : Sh 40 d) (hv2 : nlD d = true ∨ ∃ ds, d = .list ds) (k : ∀ σ H, Sat (Wi K pL i) H0 (EL a r t .no v5 .no v10 v11 v12) σ H → D.nx σ H) :
    Go (Wi K pL i) H0 (tSeq (tAsg (tAndV (tOp (rInD K) (tVar 3) (tVar 7)) (tCall (Pr (relAlike 7)) [] E0 (tCons (tVar 3) (tCons (tOp (rIxL K) (tLc (iList K (tVar 7)) (gName 16) (tTest (tOp (rEqD K) (tVar 16) (tVar 3))) (tVar 16) [16]) (tC (.int 0))) tNil)))) (gName 9))
      (tSeq (tIfS (tNot (tB (tCall (Pr (relAlike 7)) [] E0 (tCons (tCall (PrX relCallOf (badObj2 CO)) [] E0 (tCons (tVar 2) (tCons (tVar 3) tNil))) (tCons (tVar 9) tNil))))) (tRet (tC (.bl false))) tNext)
        (tIfS (tAnd (tNot (tB (tVar 9))) (tTest (tOp rNe (LamX.tLam (WiT pL) (TT3 K CO CS CC) fun x => tCall (PrX relAppl (badAppl CS CC)) [] x (tCons (tVar 2) (tCons (tOp (rIxL K) (tVar 8) (tC (.int 0))) (tCons (tVar 3) tNil)))) (tC (.str "call"))))) (tRet (tC (.bl false))) tNext)))
      D (EL a r t (.gen d) v5 .no v10 v11 v12) := by
  refine go_arg (i := 3) (E := EL a r t .no v5 .no v10 v11 v12) (by show 3 < 17; decide) hv2 fun x hx => ?_
  show Go (Wi K pL i) H0 _ D (EL a r t x v5 .no v10 v11 v12)
  refine q_asgF (ev_good ht hx hv sh) ?_
  show Go (Wi K pL i) H0 _ D (EL a r t x v5 (.dat (.bool (t.isCall d))) v10 v11 v12)
  obtain ⟨y, hy, hy1, hy2⟩ := ev_argV (W := Wi K pL i) (H0 := H0) (E := EL a r t x v5 (.dat (.bool (t.isCall d))) v10 v11 v12) (i := 3) rfl hx
  obtain ⟨b, hb1, hb2⟩ := isArg_coe hy2
  have shb : Sh 40 (.bool (t.isCall d)) := Sh.bool _
  have e1 : Ev (Wi K pL i) H0 (tCall (PrX relCallOf (badObj2 CO)) [] E0 (tCons (tVar 2) (tCons (tVar 3) tNil))) (EL a r t x v5 (.dat (.bool (t.isCall d))) v10 v11 v12) (.f (.bool (t.isCall d))) :=
    ev_callX (as := [.f t.d, y]) (eva_cons (ev_dat rfl) (eva_cons hy eva_nil)) (.cons coe_rfl (.cons hb1 .nil)) ⟨t, b, d, ht, rfl, hb2, hv, rfl⟩ trivial
  refine q_guardF (b := false) (EvT.is (et_not (et_B (ev_alike (n := 7) (d := .bool (t.isCall d)) (e := .bool (t.isCall d)) (eva_cons e1 (eva_cons (ev_dat rfl) eva_nil)) rfl shb shb))) (by rw [alikeN_self (by rfl)]; rfl)) rfl ?_
  refine st_ifF (b := false) ?_ rfl (st_next fun σ H S => k σ H (S.wk (.same (.same (.same (.no (.same (.same (.same (.same (.same (.no Wk.rfl))))))))))))
  refine EvT.is (et_and (et_not (et_B (ev_dat rfl))) fun hn => et_test (ev_neS (x := "call") (ev_lam (C := CC) (fun Ex => evx_call (as := [.f t.d, .f t.first.d, y]) (eva_cons (ev_dat rfl) (eva_cons (ev_line0 rfl) (eva_cons hy eva_nil))) (.cons coe_rfl (.cons coe_rfl (.cons hb1 .nil))) ⟨t, _, b, t.first.d, d, ht, rfl, .inl rfl, hb2, hv, .inr ⟨Th.good_of (List.mem_of_getElem? (Th.states_head t)), by simpa using hn, rfl⟩⟩) (told_C cO cS cC)) ev_str)) (by simp)
/-- what is no state -/
def badS : List PyData := [.tuple [.int 9, .int 9], .str "x", .list [.int 0], .int (-1), .int 77, .tuple [.tuple []]]
theorem sameD_len {xs ys : List PyData} (h : xs.length ≠ ys.length) : sameD (.tuple xs) (.tuple ys) = false := by
  show (decide ((xs.length : Int) = (ys.length : Int)) && (rangeR 0 (xs.length : Int)).all (sameAt xs ys)) = false
  rw [decide_eq_false (by omega)]
  rfl
theorem bad_num {k : Int} (h : 0 ≤ k ∧ k < 77) : ∀ d ∈ badS, sameD (.int k) d = false := by
  intro d hd
  simp only [badS, List.mem_cons, List.not_mem_nil, or_false] at hd
  rcases hd with rfl | rfl | rfl | rfl | rfl | rfl
  · rfl
  · rfl
  · rfl
  · show (decide (false = false) && decide (k = -1)) = false
    simp
    omega
  · show (decide (false = false) && decide (k = 77)) = false
    simp
    omega
  · rfl
theorem bad_seq {ns : List Int} (h : ns ≠ [9, 9]) : ∀ d ∈ badS, sameD (.tuple (ns.map .int)) d = false := by
  intro d hd
  simp only [badS, List.mem_cons, List.not_mem_nil, or_false] at hd
  rcases hd with rfl | rfl | rfl | rfl | rfl | rfl
  · match ns, h with
    | [], _ => rfl
    | [a], _ => rfl
    | [a, b], h =>
      show (decide ((2 : Int) = 2) && ((decide (false = false) && decide (a = 9)) && ((decide (false = false) && decide (b = 9)) && true))) = false
      simp
      intro ha hb
      exact h (by rw [ha, hb])
    | a :: b :: c :: ns, _ =>
      exact sameD_len (by simp)
  · rfl
  · rfl
  · rfl
  · rfl
  · match ns with
    | [] => rfl
    | [a] => rfl
    | a :: b :: ns =>
      exact sameD_len (by simp)
theorem bad_state (ht : t.ok) {s : Sta} (hs : t.okS s) : ∀ d ∈ badS, sameD s.d d = false := by
  cases s with
  | non =>
    intro d hd
    simp only [badS, List.mem_cons, List.not_mem_nil, or_false] at hd
    rcases hd with rfl | rfl | rfl | rfl | rfl | rfl <;> rfl
  | num k =>
    refine bad_num ?_
    cases t with
    | counter m => have := hs.1; have := hs.2; have := ht.2; omega
    | register m => have := hs.1; have := hs.2; have := ht.2; omega
    | agree m => have := hs.1; have := hs.2; have := ht.2; omega
    | table rows => have := hs.1; have := hs.2; have := ht.1; omega
    | _ => exact hs.elim
  | seq ns =>
    refine bad_seq fun e => ?_
    subst e
    cases t with
    | stack q m => have := (hs.2 9 (by simp)).2; have := ht.2; omega
    | queue q m => have := (hs.2 9 (by simp)).2; have := ht.2; omega
    | set m => have := ((sub_bound ht hs).2 9 (by simp)).2; omega
    | bank bs =>
      have h1 : (2 : Nat) = bs.length := hs.1
      have h2 : (18 : Int) = bs.sum := hs.2.2
      have := (bank_sum ht).2 h1.symm
      omega
    | _ => exact hs.elim
theorem bad_good (ht : t.ok) : ∀ d ∈ badS, t.good d = false := by
  intro d hd
  unfold Th.good
  rw [List.any_eq_false]
  intro s hs
  rw [bad_state ht ((Th.states_inv ht).ok s hs) d hd]
  decide
/-- one value taken for a state -/
theorem go_bad (ht : t.ok) (sO : PySem.W.exmOne K (.ref CS) (.ref CO) = some false) (sS : PySem.W.exmOne K (.ref CS) (.ref CS) = some true) (hc0 : t.calls[0]? = some c0) (hd : d ∈ badS)
    (k : ∀ σ H, Sat (Wi K pL i) H0 (EL a r t .no v5 .no v10 v11 v12) σ H → D.nx σ H) :
    Go (Wi K pL i) H0 (tIfS (tTest (tOp rNe (LamX.tLam (WiT pL) (TT3 K CO CS CC) fun x => tCall (PrX relAppl (badAppl CS CC)) [] x (tCons (tVar 2) (tCons (tVar 3) (tCons (tOp (rIxL K) (tVar 7) (tC (.int 0))) tNil)))) (tC (.str "state")))) (tRet (tC (.bl false))) tNext)
      D (EL a r t (.gen d) v5 .no v10 v11 v12) := by
  have hm0 : c0 ∈ t.calls := List.mem_of_getElem? hc0
  have hv2 : nlD d = true ∨ ∃ ds, d = .list ds := by
    have hd := hd
    simp only [badS, List.mem_cons, List.not_mem_nil, or_false] at hd
    rcases hd with rfl | rfl | rfl | rfl | rfl | rfl
    · exact .inl rfl
    · exact .inl rfl
    · exact .inr ⟨_, rfl⟩
    · exact .inl rfl
    · exact .inl rfl
    · exact .inl rfl
  obtain ⟨y, hy, hb⟩ := ev_genA (W := Wi K pL i) (H0 := H0) (E := EL a r t (.gen d) v5 .no v10 v11 v12) (i := 3) rfl hv2
  refine st_ifF (b := false) (EvT.is (et_test (ev_neS (x := "state") (ev_lam (C := CS) (fun Ex => evx_call (as := [.f t.d, y, .f c0.d]) (eva_cons (ev_dat rfl) (eva_cons hy (eva_cons (ev_name0 rfl hc0) eva_nil))) (.cons coe_rfl (.cons coe_rfl (.cons coe_rfl .nil))) ⟨t, y, _, d, c0.d, ht, rfl, hb, .inl rfl, cal_vl hm0, .inl ⟨bad_good ht d hd, rfl⟩⟩) (told_S sO sS)) ev_str)) (by simp)) rfl
    (st_next fun σ H S => k σ H (S.wk (.same (.same (.same (.no Wk.rfl))))))
end
end K00

/-! Part Z. -/
set_option Elab.async false
set_option linter.all false
set_option autoImplicit false
set_option maxRecDepth 100000
set_option maxHeartbeats 4000000
/-! The law's end: rows of calls. -/
namespace K00
open PySem PySem.Spec PyProof.Rows L2
section
variable {W : Wd} {H0 : Hp} {E : List AV} {ta tb tc : TE} {D : Ends} {tz : TS} {i j l : Nat}
theorem q_par3N {P : PyData → Prop} {x y : PyData} (h1 : EvN W H0 ta E P) (h2 : Ev W H0 tb E (.f x)) (h3 : Ev W H0 tc E (.f y)) (k : ∀ d, P d → Go W H0 tz D (((E.set i (.dat d)).set j (.dat x)).set l (.dat y))) :
    Go W H0 (tSeq (tPar3 i j l (tCons ta (tCons tb (tCons tc tNil)))) tz) D E := go_seq fun σ H S => h1 σ H S _ fun d v H1 pd n1 q1 => h2.late (S.next n1) fun u H2 n2 q2 => h3.late ((S.next n1).next n2) fun w H3 n3 q3 => by
  have q2 : Fz H2 u x := q2
  exact ⟨v, u, w, rfl, k d pd _ H3 ((((((S.next n1).next n2).next n3).dat ((q1.to n2.1).to n3.1)).dat (q2.to n3.1)).dat q3)⟩
end
section
variable {K : PySem.W.Frag} {pL : Addr} {i : WT} {H0 : Hp} {t : Th} {c0 : Cal} {d : PyData} {D : Ends} {CO CS CC : Addr} {v3 v5 v9 v10 v11 v12 : AV} {tz : TS}
theorem made_of {n : Nat} : ∀ {ds : List PyData}, (∀ d ∈ ds, d ∈ t.calls.map Cal.d) → ∃ cs : List Cal, ds = cs.map Cal.d ∧ (∀ c ∈ cs, c ∈ t.calls)
  | [], _ => ⟨[], rfl, fun _ h => by cases h⟩
  | d :: ds, h => by
    obtain ⟨c, hc, e⟩ := List.mem_map.mp (h d List.mem_cons_self)
    obtain ⟨cs, e2, h2⟩ := made_of (n := n) fun d hd => h d (List.mem_cons_of_mem _ hd)
    refine ⟨c :: cs, by rw [e2, ← e]; rfl, fun x hx => ?_⟩
    rcases List.mem_cons.mp hx with rfl | hx
    · exact hc
    · exact h2 x hx
/-- a row is made -/
theorem q_made (hl : 0 < t.calls.length ∧ t.calls.length < 1000000) (k : ∀ cs : List Cal, (∀ c ∈ cs, c ∈ t.calls) → cs.length ≤ 8 → Go (Wi K pL i) H0 tz D (EL i.a i.r t .no v5 .no (.dat (.tuple (cs.map Cal.d))) (.dat t.first.d) (.dat (.tuple [])))) :
    Go (Wi K pL i) H0 (tSeq (tPar3 10 11 12 (tCons (tCB (rTupZ K) (tCons (tLc (iRng1 (tCons (tCall (spAny fun i : WT => spTaken (Wi K pL i) i.r) [] E0 (tCons (tVar 1) (tCons (tC (.int 9)) tNil))) tNil)) (gName 4) tYes (tCall (spAny fun i : WT => spPick (Wi K pL i) i.r) [] E0 (tCons (tVar 1) (tCons (tVar 7) tNil))) [4]) tNil))
      (tCons (tOp (rIxL K) (tVar 8) (tC (.int 0))) (tCons (tTup tNil) tNil)))) tz) D (EL i.a i.r t .no v5 .no v10 v11 v12) := by
  have e1 := evn_tupOf (K := K) (evn_lcN (W := Wi K pL i) (H0 := H0) (E := EL i.a i.r t .no v5 .no v10 v11 v12) (j := 4) (vs := [4]) (m := 8) (evA_take (Ex := E0) (n := 1) rfl ev_int (x := 9) (by decide)) (fun n h => by omega) (by decide) (by decide) fun d => evA_pick (Ex := E0) (n := 1) (m := 7) (ds := t.calls.map Cal.d) rfl rfl (cals_nl _) (by rw [List.length_map]; exact hl))
  have e3 : Ev (Wi K pL i) H0 (tTup tNil) (EL i.a i.r t .no v5 .no v10 v11 v12) (.f (.tuple [])) := ev_tup (as := []) eva_nil rfl (by decide)
  refine q_par3N e1 (ev_line0 rfl) e3 fun d hd => ?_
  obtain ⟨ds, ⟨⟨n, hn, hnl⟩, hds⟩, rfl⟩ := hd
  obtain ⟨cs, rfl, hcs⟩ := made_of (n := 0) hds
  rw [List.length_map] at hnl
  exact k cs hcs (by omega)
theorem runD_all (ht : t.ok) {cs : List Cal} (hcs : ∀ c ∈ cs, c ∈ t.calls) (hl : cs.length ≤ 8) : fits 7 (t.runD cs) = true ∧ Sh 40 (t.runD cs) := by
  have ans : ∀ (cs : List Cal) (s : Sta), ∀ d ∈ (t.run s cs).1, isAns d = true := by
    intro cs
    induction cs with
    | nil => intro s d hd; cases hd
    | cons c cs ih =>
      intro s d hd
      rcases List.mem_cons.mp hd with rfl | hd
      · exact step_ans t s c
      · exact ih _ d hd
  have an := ans cs t.first
  have so := run_ok ht cs t.first (Th.first_ok ht) hcs
  have f := fits_sta (okS_len ht so) 4
  have f1 : (t.run t.first cs).1.all (fits 5) = true := by
    rw [List.all_eq_true]
    exact fun d hd => (ans_sh (an d hd) 1).2 4
  constructor
  · show (decide (2 ≤ 50000) && ((decide ((t.run t.first cs).1.length ≤ 50000) && (t.run t.first cs).1.all (fits 5)) && (fits 6 (t.run t.first cs).2.d && true))) = true
    rw [f, f1, run_len, decide_eq_true (by omega : cs.length ≤ 50000)]
    rfl
  · exact (ShAll.cons ((ShAll.of fun d hd => (ans_sh (an d hd) 38).1).tup) (.cons ((Sta.sh _).mono (by decide)) .nil)).tup
/-- the row is done -/
theorem q_turns (ht : t.ok) {cs : List Cal} (hcs : ∀ c ∈ cs, c ∈ t.calls) (hl : cs.length ≤ 8) (k : Go (Wi K pL i) H0 tz D (EL i.a i.r t .no .no .no (.dat (.tuple (cs.map Cal.d))) (.dat (t.run t.first cs).2.d) (.dat (.tuple (t.run t.first cs).1)))) :
    Go (Wi K pL i) H0 (tSeq (tFor (iTup K (tVar 10)) (gName 6) (tSeq (tAsg (tCall (Pr relStep) [] E0 (tCons (tVar 2) (tCons (tVar 11) (tCons (tVar 6) tNil)))) (gTup K 2 (gCons (gName 11) (gCons (gName 14) gNil)))) (tAsg (tOp (rCatA K) (tVar 12) (tTup (tCons (tVar 14) tNil))) (gName 12)))) tz)
      D (EL i.a i.r t .no v5 .no (.dat (.tuple (cs.map Cal.d))) (.dat t.first.d) (.dat (.tuple []))) := by
  have w12 : plainE (EL i.a i.r t .no .no .no (.dat (.tuple (cs.map Cal.d))) (.dat t.first.d) (.dat (.tuple []))) = true := rfl
  refine go_wk (E' := EL i.a i.r t .no .no .no (.dat (.tuple (cs.map Cal.d))) (.dat t.first.d) (.dat (.tuple []))) (.same (.same (.same (.same (.same (.no Wk.rfl)))))) ?_
  refine q_for (fun n E' => n ≤ cs.length ∧ E' = EL i.a i.r t .no .no .no (.dat (.tuple (cs.map Cal.d))) (.dat (t.run t.first (cs.take n)).2.d) (.dat (.tuple (t.run t.first (cs.take n)).1))) (evi_tup (ev_dat rfl)) (fun n E' p => by rw [p.2]; rfl) ⟨Nat.zero_le _, rfl⟩ Wk.rfl (fun H1 n1 n a' E' ha p => ?_) fun E' p => ?_
  · obtain ⟨_, rfl⟩ := p
    rw [List.getElem?_map] at ha
    obtain ⟨d, e1, rfl⟩ := Option.map_eq_some_iff.mp ha
    rw [List.getElem?_map] at e1
    obtain ⟨c, e2, rfl⟩ := Option.map_eq_some_iff.mp e1
    have hc : c ∈ t.calls := hcs c (List.mem_of_getElem? e2)
    have hlt : n < cs.length := (List.getElem?_eq_some_iff.mp e2).1
    have ok2 := run_ok ht (cs.take n) t.first (Th.first_ok ht) fun l hl => hcs l (List.mem_of_mem_take hl)
    have tk := take_snoc e2
    have sn := run_snoc t (cs.take n) t.first c
    have ln := run_len t (cs.take n) t.first
    rw [List.length_take] at ln
    refine q_two (d := (t.step (t.run t.first (cs.take n)).2 c).1.d) (e := (t.step (t.run t.first (cs.take n)).2 c).2) (ev_step (s := (t.run t.first (cs.take n)).2) (l := c) (eva_cons (ev_dat rfl) (eva_cons (ev_dat rfl) (eva_cons (ev_dat rfl) eva_nil))) ht ok2 (Th.okC_of hc)) ?_
    have e4 : ∀ {E : List AV} {x : PyData}, E[14]? = some (.dat x) → Ev (Wi K pL i) H1 (tTup (tCons (tVar 14) tNil)) E (.f (.tuple [x])) := fun h => ev_tup (as := [.f _]) (eva_cons (ev_dat h) eva_nil) rfl (by show 1 ≤ 100000; decide)
    refine st_asgF (ev_catT (ev_dat rfl) (e4 rfl) (by show _ + 1 ≤ 100000; omega)) fun σ H S => ⟨_, ⟨hlt, rfl⟩, ?_⟩
    rw [tk, sn]
    exact S.wk (.same (.same (.same (.same (.same (.same (.no (.same (.same (.same (.same (.same (.same (.same (.no (.same (.same .nil)))))))))))))))))
  · obtain ⟨_, rfl⟩ := p
    rw [List.length_map, List.length_map, List.take_length]
    exact k
theorem cut_ps (c : Cal) : cutD c.ps none (some 1) = [.str c.w] := by
  unfold cutD Cal.ps
  cases h : (c.ns.map PyData.int) with
  | nil => rfl
  | cons a l => simp [HT.sIx]
theorem eqvAll_len : ∀ {xs ys : List PyData}, PyData.eqvAll xs ys = true → xs.length = ys.length
  | [], [], _ => rfl
  | [], _ :: _, h => by cases h
  | _ :: _, [], h => by cases h
  | x :: xs, y :: ys, h => by
    have h : (PyData.eqv x y && PyData.eqvAll xs ys) = true := h
    rw [Bool.and_eq_true] at h
    exact congrArg (· + 1) (eqvAll_len h.2)
theorem no_two (hm : c0 ∈ t.calls) (x y : PyData) : t.isCall (.tuple [.str c0.w, x, y]) = false := by
  rw [← isCall_and, Bool.and_eq_false_iff]
  refine .inl ?_
  rw [List.any_eq_false]
  intro z hz
  obtain ⟨c, hc, rfl⟩ := List.mem_map.mp hz
  have l2 : c.ns.length ≠ 2 := by
    have hc := Th.okC_of hc
    cases t with
    | counter m => rcases hc with rfl | ⟨k, hk, rfl⟩ <;> simp
    | register m => rcases hc with rfl | ⟨k, hk, rfl | rfl⟩ <;> simp
    | stack r m => rcases hc with rfl | ⟨k, hk, rfl⟩ <;> simp
    | queue r m => rcases hc with rfl | ⟨k, hk, rfl⟩ <;> simp
    | set m => rcases hc with ⟨k, hk, rfl | rfl | rfl⟩ <;> simp
    | agree m => rcases hc with ⟨k, hk, rfl⟩; simp
    | bank bs => rcases hc with ⟨k, hk, rfl⟩ | ⟨a, b, x, _, _, _, _, rfl⟩ <;> simp
    | table rows => rcases hc with ⟨k, hk, rfl⟩; simp
  intro e
  have e : PyData.eqvAll (.str c.w :: c.ns.map .int) [.str c0.w, x, y] = true := e
  have := eqvAll_len e
  simp at this
  exact l2 this
/-- what is no row of calls -/
def badR (c0 : Cal) (cs : List Cal) : List PyData := [.none, .list (cs.map Cal.d), .tuple (cs.map Cal.d ++ [.none]), .tuple [.tuple (cutD c0.ps none (some 1) ++ [.int 9, .int 9])]]
theorem badR_ok (hm : c0 ∈ t.calls) {cs : List Cal} (hcs : ∀ c ∈ cs, c ∈ t.calls) (hl : cs.length ≤ 8) : ∀ d ∈ badR c0 cs, t.isRow d = false ∧ (∀ ds, d = .tuple ds → ds.length ≤ 1000 ∧ ∀ x ∈ ds, Vl x) ∧ (nlD d = true ∨ ∃ ds, d = .list ds) := by
  have nlc : ∀ x ∈ cs.map Cal.d, nlD x = true := fun x hx => by
    obtain ⟨c, hc, rfl⟩ := List.mem_map.mp hx
    exact nl_tup (ps_ok (hcs c hc)).2.1
  have vn : Vl .none := ⟨Sh.none, fun es e => by cases e⟩
  intro d hd
  simp only [badR, List.mem_cons, List.not_mem_nil, or_false] at hd
  rcases hd with rfl | rfl | rfl | rfl
  · exact ⟨rfl, fun ds e => (by cases e), .inl rfl⟩
  · exact ⟨rfl, fun ds e => (by cases e), .inr ⟨_, rfl⟩⟩
  · refine ⟨?_, fun ds e => ?_, .inl (nl_tup (nl_of fun x hx => ?_))⟩
    · show (cs.map Cal.d ++ [PyData.none]).all t.isCall = false
      rw [List.all_append]
      show ((cs.map Cal.d).all t.isCall && (t.isCall PyData.none && true)) = false
      have : t.isCall PyData.none = false := rfl
      rw [this, Bool.false_and, Bool.and_false]
    · cases e
      refine ⟨by rw [List.length_append, List.length_map]; show cs.length + 1 ≤ 1000; omega, fun x hx => ?_⟩
      rcases List.mem_append.mp hx with z | z
      · obtain ⟨c, hc, rfl⟩ := List.mem_map.mp z
        exact cal_vl (hcs c hc)
      · rw [List.mem_singleton.mp z]
        exact vn
    · rcases List.mem_append.mp hx with z | z
      · exact nlc x z
      · rw [List.mem_singleton.mp z]
        rfl
  · rw [cut_ps]
    refine ⟨?_, fun ds e => ?_, .inl rfl⟩
    · show (t.isCall (.tuple [.str c0.w, .int 9, .int 9]) && true) = false
      rw [no_two hm]
      rfl
    · cases e
      refine ⟨by show 1 ≤ 1000; decide, fun x hx => ?_⟩
      rw [List.mem_singleton.mp hx]
      exact ⟨(ShAll.cons (Sh.str (Th.okC_str (Th.okC_of hm))) (.cons (Sh.int 9) (.cons (Sh.int 9) .nil))).tup, fun es e => by cases e; show 3 ≤ 1000; decide⟩
/-- the row's end -/
theorem q_last (ht : t.ok) (cO : PySem.W.exmOne K (.ref CC) (.ref CO) = some false) (cS : PySem.W.exmOne K (.ref CC) (.ref CS) = some false) (cC : PySem.W.exmOne K (.ref CC) (.ref CC) = some true) (hc0 : t.calls[0]? = some c0)
    {cs : List Cal} (hcs : ∀ c ∈ cs, c ∈ t.calls) (hl : cs.length ≤ 8) {a r : Addr} (k : Ret (Wi K pL i) H0 D (.f (.bool true))) :
    Go (Wi K pL i) H0 (tSeq (tIfS (tNot (tB (tCall (Pr (relAlike 7)) [] E0 (tCons (tCall (PrX relRun (badRow CC)) [] E0 (tCons (tVar 2) (tCons (tVar 10) tNil))) (tCons (tTup (tCons (tVar 12) (tCons (tVar 11) tNil))) tNil))))) (tRet (tC (.bl false))) tNext)
      (tRet (tOp (rEqD K) (tLc (iList K (tLst (tCons (tC .non) (tCons (tCB (rLstZ K) (tCons (tVar 10) tNil)) (tCons (tOp (rCatA K) (tVar 10) (tTup (tCons (tC .non) tNil))) (tCons (tTup (tCons (tOp (rCatA K) (tSl (rSlA K) (tOp (rIxL K) (tVar 7) (tC (.int 0))) tNoPart (tPart (tC (.int 1)))) (tTup (tCons (tC (.int 9)) (tCons (tC (.int 9)) tNil)))) tNil)) tNil)))))) (gName 3) tYes
        (LamX.tLam (WiT pL) (TT3 K CO CS CC) fun x => tCall (PrX relRun (badRow CC)) [] x (tCons (tVar 2) (tCons (tVar 3) tNil))) [3]) (tOp rRep (tLst (tCons (tC (.str "call")) tNil)) (tC (.int 4))))))
      D (EL a r t .no .no .no (.dat (.tuple (cs.map Cal.d))) (.dat (t.run t.first cs).2.d) (.dat (.tuple (t.run t.first cs).1))) := by
  have all := runD_all ht hcs hl
  have hm0 : c0 ∈ t.calls := List.mem_of_getElem? hc0
  have e1 : Ev (Wi K pL i) H0 (tTup (tCons (tVar 12) (tCons (tVar 11) tNil))) (EL a r t .no .no .no (.dat (.tuple (cs.map Cal.d))) (.dat (t.run t.first cs).2.d) (.dat (.tuple (t.run t.first cs).1))) (.f (t.runD cs)) :=
    ev_tup (as := [.f (.tuple (t.run t.first cs).1), .f (t.run t.first cs).2.d]) (eva_cons (ev_dat rfl) (eva_cons (ev_dat rfl) eva_nil)) rfl (by show 2 ≤ 100000; decide)
  refine q_guardF (b := false) (EvT.is (et_not (et_B (ev_alike (n := 7) (d := t.runD cs) (e := t.runD cs) (eva_cons (ev_callX (as := [.f t.d, .f (.tuple (cs.map Cal.d))]) (eva_cons (ev_dat rfl) (eva_cons (ev_dat rfl) eva_nil)) (.cons coe_rfl (.cons coe_rfl .nil)) ⟨t, cs, ht, hcs, by omega, rfl, rfl⟩ trivial) (eva_cons e1 eva_nil)) all.1 all.2 all.2))) (by rw [alikeN_self all.1]; rfl)) rfl ?_
  have x1 : ∀ {H0 : Hp}, Ev (Wi K pL i) H0 (tOp (rCatA K) (tVar 10) (tTup (tCons (tC .non) tNil))) (EL a r t .no .no .no (.dat (.tuple (cs.map Cal.d))) (.dat (t.run t.first cs).2.d) (.dat (.tuple (t.run t.first cs).1))) (.f (.tuple (cs.map Cal.d ++ [.none]))) :=
    ev_catT (ev_dat rfl) (ev_tup (as := [.f .none]) (eva_cons ev_non eva_nil) rfl (by show 1 ≤ 100000; decide)) (by rw [List.length_map]; show cs.length + 1 ≤ 100000; omega)
  have x2 : ∀ {H0 : Hp}, Ev (Wi K pL i) H0 (tOp (rCatA K) (tSl (rSlA K) (tOp (rIxL K) (tVar 7) (tC (.int 0))) tNoPart (tPart (tC (.int 1)))) (tTup (tCons (tC (.int 9)) (tCons (tC (.int 9)) tNil)))) (EL a r t .no .no .no (.dat (.tuple (cs.map Cal.d))) (.dat (t.run t.first cs).2.d) (.dat (.tuple (t.run t.first cs).1))) (.f (.tuple (cutD c0.ps none (some 1) ++ [.int 9, .int 9]))) :=
    ev_catT (ev_slT (ev_name0 rfl hc0) evo_no (evo_some ev_int)) (ev_tup (as := [.f (.int 9), .f (.int 9)]) (eva_cons ev_int (eva_cons ev_int eva_nil)) rfl (by show 2 ≤ 100000; decide)) (by rw [cut_ps]; show 1 + 2 ≤ 100000; decide)
  have x3 : ∀ {H0 : Hp}, Ev (Wi K pL i) H0 (tTup (tCons (tOp (rCatA K) (tSl (rSlA K) (tOp (rIxL K) (tVar 7) (tC (.int 0))) tNoPart (tPart (tC (.int 1)))) (tTup (tCons (tC (.int 9)) (tCons (tC (.int 9)) tNil)))) tNil)) (EL a r t .no .no .no (.dat (.tuple (cs.map Cal.d))) (.dat (t.run t.first cs).2.d) (.dat (.tuple (t.run t.first cs).1))) (.f (.tuple [.tuple (cutD c0.ps none (some 1) ++ [.int 9, .int 9])])) :=
    ev_tup (as := [.f (.tuple (cutD c0.ps none (some 1) ++ [.int 9, .int 9]))]) (eva_cons x2 eva_nil) rfl (by show 1 ≤ 100000; decide)
  have src : EvI (Wi K pL i) H0 (iList K (tLst (tCons (tC .non) (tCons (tCB (rLstZ K) (tCons (tVar 10) tNil)) (tCons (tOp (rCatA K) (tVar 10) (tTup (tCons (tC .non) tNil))) (tCons (tTup (tCons (tOp (rCatA K) (tSl (rSlA K) (tOp (rIxL K) (tVar 7) (tC (.int 0))) tNoPart (tPart (tC (.int 1)))) (tTup (tCons (tC (.int 9)) (tCons (tC (.int 9)) tNil)))) tNil)) tNil))))))
      (EL a r t .no .no .no (.dat (.tuple (cs.map Cal.d))) (.dat (t.run t.first cs).2.d) (.dat (.tuple (t.run t.first cs).1))) ((badR c0 cs).map .b) :=
    evi_lstB (ev_lstM (as := [.f .none, .l (cs.map Cal.d), .f (.tuple (cs.map Cal.d ++ [.none])), .f (.tuple [.tuple (cutD c0.ps none (some 1) ++ [.int 9, .int 9])])]) (eva_cons ev_non (eva_cons (ev_lstOf (ev_dat rfl)) (eva_cons x1 (eva_cons x3 eva_nil)))) rfl (by show 4 ≤ 100000; decide)) rfl
  refine st_ret (c := .f (.bool true)) (Ev.is (ev_eqD (d := .list [.str "call", .str "call", .str "call", .str "call"]) (e := .list [.str "call", .str "call", .str "call", .str "call"]) (ev_lcA (fun _ => .str "call") src (by decide) (by show 4 ≤ 50000; decide) fun n a' ha => ?_) (ev_rep (ds := [.str "call"]) (k := 4) (ev_lst (as := [.f (.str "call")]) (eva_cons ev_str eva_nil) rfl (by show 1 ≤ 100000; decide)) ev_int (by decide) (by decide)) rfl rfl (by decide +kernel) (by decide +kernel)) (congrArg (fun b => AR.f (.bool b)) (by decide +kernel))) k
  rw [List.getElem?_map] at ha
  obtain ⟨d, e2, rfl⟩ := Option.map_eq_some_iff.mp ha
  obtain ⟨b1, b2, b3⟩ := badR_ok hm0 hcs hl d (List.mem_of_getElem? e2)
  obtain ⟨y, hy, hb⟩ := ev_genA (W := Wi K pL i) (H0 := H0) (E := EL a r t (.gen d) .no .no (.dat (.tuple (cs.map Cal.d))) (.dat (t.run t.first cs).2.d) (.dat (.tuple (t.run t.first cs).1))) (i := 3) rfl b3
  exact ev_lam (C := CC) (fun Ex => evx_call (as := [.f t.d, y]) (eva_cons (ev_dat rfl) (eva_cons hy eva_nil)) (.cons coe_rfl (.cons coe_rfl .nil)) ⟨t, y, d, ht, rfl, hb, b2, b1, rfl⟩) (told_C cO cS cC)
/-- all are asked -/
theorem q_askAll (ht : t.ok) (cO : PySem.W.exmOne K (.ref CC) (.ref CO) = some false) (cS : PySem.W.exmOne K (.ref CC) (.ref CS) = some false) (cC : PySem.W.exmOne K (.ref CC) (.ref CC) = some true) (hc0 : t.calls[0]? = some c0) {a r : Addr}
    (k : Go (Wi K pL i) H0 tz D (EL a r t .no (.gen (.list (someD c0))) .no .no .no .no)) :
    Go (Wi K pL i) H0 (tSeq (tFor (iList K (tOp rCat (tVar 5) (tVar 7))) (gName 3)
      (tSeq (tAsg (tAndV (tOp (rInD K) (tVar 3) (tVar 7)) (tCall (Pr (relAlike 7)) [] E0 (tCons (tVar 3) (tCons (tOp (rIxL K) (tLc (iList K (tVar 7)) (gName 16) (tTest (tOp (rEqD K) (tVar 16) (tVar 3))) (tVar 16) [16]) (tC (.int 0))) tNil)))) (gName 9))
      (tSeq (tIfS (tNot (tB (tCall (Pr (relAlike 7)) [] E0 (tCons (tCall (PrX relCallOf (badObj2 CO)) [] E0 (tCons (tVar 2) (tCons (tVar 3) tNil))) (tCons (tVar 9) tNil))))) (tRet (tC (.bl false))) tNext)
        (tIfS (tAnd (tNot (tB (tVar 9))) (tTest (tOp rNe (LamX.tLam (WiT pL) (TT3 K CO CS CC) fun x => tCall (PrX relAppl (badAppl CS CC)) [] x (tCons (tVar 2) (tCons (tOp (rIxL K) (tVar 8) (tC (.int 0))) (tCons (tVar 3) tNil)))) (tC (.str "call"))))) (tRet (tC (.bl false))) tNext)))) tz)
      D (EL a r t .no (.gen (.list (someD c0))) .no .no .no .no) := by
  have hm0 : c0 ∈ t.calls := List.mem_of_getElem? hc0
  have hl := Th.calls_len ht
  have src : EvI (Wi K pL i) H0 (iList K (tOp rCat (tVar 5) (tVar 7))) (EL a r t .no (.gen (.list (someD c0))) .no .no .no .no) ((someD c0 ++ t.calls.map Cal.d).map .b) :=
    evi_lstB (ev_catM (ev_gen rfl) (ev_gen rfl) rfl rfl (by rw [List.length_map]; show 11 + _ ≤ _; omega)) rfl
  refine q_for (fun _ E' => E' = EL a r t .no (.gen (.list (someD c0))) .no .no .no .no) src (fun _ E' p => by rw [p]; rfl) rfl Wk.rfl (fun H2 n2 z a' E' ha p => ?_) fun E' p => by rw [p]; exact k
  subst p
  rw [List.getElem?_map] at ha
  obtain ⟨d, hd0, rfl⟩ := Option.map_eq_some_iff.mp ha
  have hdm : d ∈ someD c0 ++ t.calls.map Cal.d := List.mem_of_getElem? hd0
  have hv : Vl d ∧ Sh 40 d ∧ (nlD d = true ∨ ∃ ds, d = .list ds) := by
    rcases List.mem_append.mp hdm with z | z
    · obtain ⟨h1, h2⟩ := some_ok hm0 (cal_ns10 hm0) d z
      exact ⟨h1, some_sh hm0 d z, h2.imp id fun e => ⟨_, e⟩⟩
    · obtain ⟨l, hl, rfl⟩ := List.mem_map.mp z
      exact ⟨cal_vl hl, (ps_sh hl).mono (by decide), .inl (nl_tup (ps_ok hl).2.1)⟩
  exact go_ask ht cO cS cC hv.1 hv.2.1 hv.2.2 fun σ H S => ⟨_, rfl, S⟩
/-- all the bad states -/
theorem q_badAll (ht : t.ok) (sO : PySem.W.exmOne K (.ref CS) (.ref CO) = some false) (sS : PySem.W.exmOne K (.ref CS) (.ref CS) = some true) (hc0 : t.calls[0]? = some c0) {a r : Addr} {v5 : AV} (h5 : ∃ d, v5 = .gen d)
    (k : Go (Wi K pL i) H0 tz D (EL a r t .no v5 .no .no .no .no)) :
    Go (Wi K pL i) H0 (tSeq (tFor (iList K (tLst (tCons (tTup (tCons (tC (.int 9)) (tCons (tC (.int 9)) tNil))) (tCons (tC (.str "x")) (tCons (tLst (tCons (tC (.int 0)) tNil)) (tCons (tUn (rU fun i => .int (-i)) (tC (.int 1))) (tCons (tC (.int 77)) (tCons (tTup (tCons (tTup tNil) tNil)) tNil)))))))) (gName 3)
      (tIfS (tTest (tOp rNe (LamX.tLam (WiT pL) (TT3 K CO CS CC) fun x => tCall (PrX relAppl (badAppl CS CC)) [] x (tCons (tVar 2) (tCons (tVar 3) (tCons (tOp (rIxL K) (tVar 7) (tC (.int 0))) tNil)))) (tC (.str "state")))) (tRet (tC (.bl false))) tNext)) tz)
      D (EL a r t .no v5 .no .no .no .no) := by
  obtain ⟨d5, rfl⟩ := h5
  have x1 : ∀ {E : List AV}, Ev (Wi K pL i) H0 (tTup (tCons (tC (.int 9)) (tCons (tC (.int 9)) tNil))) E (.f (.tuple [.int 9, .int 9])) := ev_tup (as := [.f (.int 9), .f (.int 9)]) (eva_cons ev_int (eva_cons ev_int eva_nil)) rfl (by decide)
  have x2 : ∀ {E : List AV}, Ev (Wi K pL i) H0 (tLst (tCons (tC (.int 0)) tNil)) E (.l [.int 0]) := ev_lst (as := [.f (.int 0)]) (eva_cons ev_int eva_nil) rfl (by decide)
  have x3 : ∀ {E : List AV}, Ev (Wi K pL i) H0 (tTup (tCons (tTup tNil) tNil)) E (.f (.tuple [.tuple []])) := ev_tup (as := [.f (.tuple [])]) (eva_cons (ev_tup (as := []) eva_nil rfl (by decide)) eva_nil) rfl (by decide)
  have src : EvI (Wi K pL i) H0 (iList K (tLst (tCons (tTup (tCons (tC (.int 9)) (tCons (tC (.int 9)) tNil))) (tCons (tC (.str "x")) (tCons (tLst (tCons (tC (.int 0)) tNil)) (tCons (tUn (rU fun i => .int (-i)) (tC (.int 1))) (tCons (tC (.int 77)) (tCons (tTup (tCons (tTup tNil) tNil)) tNil))))))))
      (EL a r t .no (.gen d5) .no .no .no .no) (badS.map .b) :=
    evi_lstB (ev_lstM (as := [.f (.tuple [.int 9, .int 9]), .f (.str "x"), .l [.int 0], .f (.int (-1)), .f (.int 77), .f (.tuple [.tuple []])]) (eva_cons x1 (eva_cons ev_str (eva_cons x2 (eva_cons (ev_neg ev_int) (eva_cons ev_int (eva_cons x3 eva_nil)))))) rfl (by decide)) rfl
  refine q_for (fun _ E' => E' = EL a r t .no (.gen d5) .no .no .no .no) src (fun _ E' p => by rw [p]; rfl) rfl Wk.rfl (fun H2 n2 z a' E' ha p => ?_) fun E' p => by rw [p]; exact k
  subst p
  rw [List.getElem?_map] at ha
  obtain ⟨d, hd0, rfl⟩ := Option.map_eq_some_iff.mp ha
  exact go_bad ht sO sS hc0 (List.mem_of_getElem? hd0) fun σ H S => ⟨_, rfl, S⟩
end
end K00

/-! Part T. -/
set_option Elab.async false
set_option linter.all false
set_option autoImplicit false
set_option maxRecDepth 100000
set_option maxHeartbeats 0
/-! The law. -/
namespace K00
open PySem PySem.Spec PyProof.Rows L2
local macro_rules | `(tactic| walk_at "k00a") => `(tactic| first
  | (with_reducible exact eva_nil)
  | ((with_reducible refine' eva_cons ?k1 ?k2); (case k1 => walk_at "k00e"); (case k2 => walk_at "k00a"))
  | ((with_reducible refine' eva_star ?k1 ?k2); (case k1 => walk_at "k00e"); (case k2 => walk_at "k00a")))
local macro_rules | `(tactic| walk_at "k00o") => `(tactic| first
  | (with_reducible exact evo_no)
  | ((with_reducible refine' evo_some ?k1); (case k1 => walk_at "k00e")))
local macro_rules | `(tactic| walk_at "k00e") => `(tactic| first
  | (with_reducible exact ev_int)
  | (with_reducible exact ev_str)
  | (with_reducible exact ev_bl)
  | (with_reducible exact ev_non)
  | ((with_reducible refine' ev_dat ?k1); (case k1 => rfl))
  | ((with_reducible refine' ev_own ?k1); (case k1 => rfl))
  | ((with_reducible refine' ev_argF ?k1 ?k2); (case k1 => rfl); (case k2 => rfl))
  | ((with_reducible refine' ev_arg ?k1); (case k1 => rfl))
  | ((with_reducible refine' ev_genF ?k1 ?k2); (case k1 => rfl); (case k2 => rfl))
  | ((with_reducible refine' ev_gen ?k1); (case k1 => rfl))
  | ((with_reducible refine' ev_raw ?k1); (case k1 => rfl))
  | ((with_reducible refine' ev_ixT ?k1 ?k2 ?k3); (case k1 => walk_at "k00e"); (case k2 => walk_at "k00e"); (case k3 => walk_at "k00i"))
  | ((with_reducible refine' ev_ixL ?k1 ?k2 ?k4 ?k3); (case k1 => walk_at "k00e"); (case k2 => walk_at "k00e"); (case k4 => first | exact Or.inl rfl | exact Or.inr rfl); (case k3 => walk_at "k00i"))
  | ((with_reducible refine' ev_isInt ?k1 ?k2); (case k1 => walk_at "k00e"); (case k2 => rfl))
  | ((with_reducible refine' ev_isBool ?k1 ?k2); (case k1 => walk_at "k00e"); (case k2 => rfl))
  | ((with_reducible refine' ev_isStr ?k1 ?k2); (case k1 => walk_at "k00e"); (case k2 => rfl))
  | ((with_reducible refine' ev_isTup ?k1 ?k2); (case k1 => walk_at "k00e"); (case k2 => rfl))
  | ((with_reducible refine' ev_isLst ?k1 ?k2); (case k1 => walk_at "k00e"); (case k2 => rfl))
  | ((with_reducible refine' ev_isSeq ?k1 ?k2); (case k1 => walk_at "k00e"); (case k2 => rfl))
  | ((with_reducible refine' ev_lenB ?k1 ?k2); (case k1 => walk_at "k00e"); (case k2 => first | exact Or.inl rfl | exact Or.inr rfl))
  | ((with_reducible refine' ev_int2 ?k1 ?k2); (case k1 => walk_at "k00e"); (case k2 => walk_at "k00e"))
  | ((with_reducible refine' ev_cmp2 ?k1 ?k2); (case k1 => walk_at "k00e"); (case k2 => walk_at "k00e"))
  | ((with_reducible refine' ev_intC ?k1 ?k2 ?k3); (case k1 => walk_at "k00e"); (case k2 => walk_at "k00e"); (case k3 => walk_at "k00c"))
  | ((with_reducible refine' ev_eqS ?k1 ?k2); (case k1 => walk_at "k00e"); (case k2 => walk_at "k00e"))
  | ((with_reducible refine' ev_eqI ?k1 ?k2); (case k1 => walk_at "k00e"); (case k2 => walk_at "k00e"))
  | ((with_reducible refine' ev_neI ?k1 ?k2); (case k1 => walk_at "k00e"); (case k2 => walk_at "k00e"))
  | ((with_reducible refine' ev_eqB ?k1 ?k2); (case k1 => walk_at "k00e"); (case k2 => walk_at "k00e"))
  | ((with_reducible refine' ev_neB ?k1 ?k2); (case k1 => walk_at "k00e"); (case k2 => walk_at "k00e"))
  | ((with_reducible refine' ev_eqD ?k1 ?k2 ?k3 ?k4 ?k5 ?k6); (case k1 => walk_at "k00e"); (case k2 => walk_at "k00e"); (case k3 => rfl); (case k4 => rfl); (case k5 => walk_at "k00s"); (case k6 => walk_at "k00s"))
  | ((with_reducible refine' ev_neD ?k1 ?k2 ?k3 ?k4 ?k5 ?k6); (case k1 => walk_at "k00e"); (case k2 => walk_at "k00e"); (case k3 => rfl); (case k4 => rfl); (case k5 => walk_at "k00s"); (case k6 => walk_at "k00s"))
  | ((with_reducible refine' ev_inD ?k1 ?k2 ?k3 ?k4 ?k5 ?k6); (case k1 => walk_at "k00e"); (case k2 => walk_at "k00e"); (case k3 => rfl); (case k4 => rfl); (case k5 => walk_at "k00s"); (case k6 => walk_at "k00s"))
  | ((with_reducible refine' ev_niD ?k1 ?k2 ?k3 ?k4 ?k5 ?k6); (case k1 => walk_at "k00e"); (case k2 => walk_at "k00e"); (case k3 => rfl); (case k4 => rfl); (case k5 => walk_at "k00s"); (case k6 => walk_at "k00s"))
  | ((with_reducible refine' ev_isNone ?k1 ?k2); (case k1 => walk_at "k00e"); (case k2 => rfl))
  | ((with_reducible refine' ev_notNone ?k1 ?k2); (case k1 => walk_at "k00e"); (case k2 => rfl))
  | ((with_reducible refine' ev_neg ?k1); (case k1 => walk_at "k00e"))
  | ((with_reducible refine' ev_tup ?k1 ?k2 ?k3); (case k1 => walk_at "k00a"); (case k2 => first | rfl | exact allF_app _ _); (case k3 => walk_at "k00l"))
  | ((with_reducible refine' ev_lst ?k1 ?k2 ?k3); (case k1 => walk_at "k00a"); (case k2 => first | rfl | exact allF_app _ _); (case k3 => walk_at "k00l"))
  | ((with_reducible refine' ev_slT ?k1 ?k2 ?k3); (case k1 => walk_at "k00e"); (case k2 => walk_at "k00o"); (case k3 => walk_at "k00o"))
  | ((with_reducible refine' ev_catT ?k1 ?k2 ?k3); (case k1 => walk_at "k00e"); (case k2 => walk_at "k00e"); (case k3 => walk_at "k00l"))
  | ((with_reducible refine' ev_cat ?k1 ?k2 ?k4 ?k5 ?k3); (case k1 => walk_at "k00e"); (case k2 => walk_at "k00e"); (case k4 => first | exact Or.inl rfl | exact Or.inr rfl); (case k5 => first | exact Or.inl rfl | exact Or.inr rfl); (case k3 => walk_at "k00l"))
  | ((with_reducible refine' ev_tupOf ?k1 ?k2); (case k1 => walk_at "k00e"); (case k2 => first | exact Or.inl rfl | exact Or.inr rfl))
  | ((with_reducible refine' ev_lstOf ?k1); (case k1 => walk_at "k00e"))
  | ((with_reducible refine' ev_intI ?k1); (case k1 => walk_at "k00e"))
  | ((with_reducible refine' ev_intB ?k1); (case k1 => walk_at "k00e"))
  | ((with_reducible refine' ev_and0 ?k1 ?k2); (case k1 => walk_at "k00e"); (case k2 => first | rfl | assumption))
  | ((with_reducible refine' ev_or1 ?k1 ?k2); (case k1 => walk_at "k00e"); (case k2 => first | rfl | assumption))
  | ((with_reducible refine' ev_ifT ?k1 ?k2 ?k3); (case k1 => walk_at "k00t"); (case k2 => first | rfl | assumption); (case k3 => walk_at "k00e"))
  | ((with_reducible refine' ev_ifF ?k1 ?k2 ?k3); (case k1 => walk_at "k00t"); (case k2 => first | rfl | assumption); (case k3 => walk_at "k00e"))
  | ((with_reducible refine' ev_andV ?k1 ?k2); (case k1 => walk_at "k00e"); (case k2 => intro hb; walk_at "k00e"))
  | ((with_reducible refine' ev_orV ?k1 ?k2); (case k1 => walk_at "k00e"); (case k2 => intro hb; walk_at "k00e"))
  | ((with_reducible refine' ev_notV ?k1); (case k1 => walk_at "k00e"))
  | ((with_reducible refine' ev_chain ?k1 ?k2 ?k3); (case k1 => walk_at "k00e"); (case k2 => walk_at "k00e"); (case k3 => walk_at "k00e"))
  | ((with_reducible refine' ev_inT ?k1 ?k2 ?k3 ?k4); (case k1 => walk_at "k00e"); (case k2 => walk_at "k00e"); (case k3 => walk_at "k00w"); (case k4 => rfl))
  | ((with_reducible refine' ev_inN ?k1 ?k2 ?k3 ?k4); (case k1 => walk_at "k00e"); (case k2 => walk_at "k00e"); (case k3 => walk_at "k00w"); (case k4 => rfl))
  | ((with_reducible refine' ev_inI ?k1 ?k2 ?k3); (case k1 => walk_at "k00e"); (case k2 => walk_at "k00e"); (case k3 => exact Or.inr (Or.inr rfl)))
  | ((with_reducible refine' ev_lcW ?k1 ?k2 ?k3 ?k4); (case k1 => walk_at "k00n"); (case k2 => decide); (case k3 => walk_at "k00x"); (case k4 => first | decide | exact of_decide_eq_true rfl))
  | walk_at "k00r"
  | (with_reducible exact ev_c))
local macro_rules | `(tactic| walk_at "k00k") => `(tactic| first
  | exact Coes.nil
  | ((refine' Coes.cons ?k1 ?k2); (case k1 => first | exact coe_rfl | exact coe_b rfl); (case k2 => walk_at "k00k")))
local macro_rules | `(tactic| walk_at "k00i") => `(tactic| first | rfl | assumption)
local macro_rules | `(tactic| walk_at "k00c") => `(tactic| first | trivial | decide | omega | assumption | exact Or.inl ⟨by omega, by omega⟩)
local macro_rules | `(tactic| walk_at "k00l") => `(tactic| first | decide | (simp; done) | (simp; omega) | omega | assumption | (simp [rangeR_len2, fzs]; done) | (simp [rangeR_len2, fzs]; omega))
local macro_rules | `(tactic| walk_at "k00s") => `(tactic| first | rfl | decide +kernel | assumption | exact Sh.shaped (by assumption))
local macro_rules | `(tactic| walk_at "k00t") => `(tactic| first
  | ((with_reducible refine' et_test ?k1); (case k1 => walk_at "k00e"))
  | ((with_reducible refine' et_B ?k1); (case k1 => walk_at "k00e"))
  | ((with_reducible refine' et_not ?k1); (case k1 => walk_at "k00t"))
  | ((with_reducible refine' et_and0 ?k1 ?k2); (case k1 => walk_at "k00t"); (case k2 => first | rfl | assumption))
  | ((with_reducible refine' et_or1 ?k1 ?k2); (case k1 => walk_at "k00t"); (case k2 => first | rfl | assumption))
  | ((with_reducible refine' et_and ?k1 ?k2); (case k1 => walk_at "k00t"); (case k2 => intro hb; walk_at "k00t"))
  | ((with_reducible refine' et_or ?k1 ?k2); (case k1 => walk_at "k00t"); (case k2 => intro hb; walk_at "k00t"))
  | (with_reducible exact et_yes))

local macro_rules | `(tactic| walk_at "k00n") => `(tactic| first
  | ((with_reducible refine' evi_rng1 ?k1 ?k2); (case k1 => walk_at "k00e"); (case k2 => walk_at "k00y"))
  | ((with_reducible refine' evi_rng2 ?k1 ?k2 ?k3); (case k1 => walk_at "k00e"); (case k2 => walk_at "k00e"); (case k3 => walk_at "k00y"))
  | ((with_reducible refine' evi_tup ?k1); (case k1 => walk_at "k00e"))
  | ((with_reducible refine' evi_lst ?k1 ?k2); (case k1 => walk_at "k00e"); (case k2 => first | exact Or.inl rfl | exact Or.inr rfl)))
local macro_rules | `(tactic| walk_at "k00y") => `(tactic| first | decide | omega | (simp; omega) | assumption)
local macro_rules | `(tactic| walk_at "k00x") => `(tactic| first | decide | assumption | (rw [rangeR_iv, List.length_map]; unfold iv; rw [List.length_map, List.length_range]; omega))
local macro_rules | `(tactic| walk_at "k00w") => `(tactic| first | exact Or.inr (Or.inr rfl) | exact Or.inl rfl | exact Or.inr (Or.inl rfl))
local macro_rules | `(tactic| walk_at "k00b") => `(tactic| first | decide +kernel | rfl | assumption | (simp; done))
local macro_rules | `(tactic| walk_at "k00g") => `(tactic| first
  | ((with_reducible refine' q_asgF ?k1 ?k2); (case k1 => walk_at "k00e"))
  | ((with_reducible refine' q_guardF ?k1 ?k2 ?k3); (case k1 => walk_at "k00t"); (case k2 => walk_at "k00b"))
  | ((with_reducible refine' q_guardT ?k1 ?k2 ?k3); (case k1 => walk_at "k00t"); (case k2 => walk_at "k00b"))
  | ((with_reducible refine' q_two ?k1 ?k2); (case k1 => walk_at "k00e"))
  | ((with_reducible refine' q_par ?k1 ?k2); (case k1 => walk_at "k00a"))
  | ((with_reducible refine' q_par3 ?k1 ?k2); (case k1 => walk_at "k00a")))
local macro_rules | `(tactic| walk_at "k00f") => `(tactic| ((refine' Ev.is ?k1 ?k2); (case k1 => walk_at "k00e"); (case k2 => rfl)))
local macro_rules | `(tactic| walk_at "k00r") => `(tactic| first
  | ((with_reducible refine' ev_small ?k1 ?k2); (case k1 => walk_at "k00a"); (case k2 => rfl))
  | ((with_reducible refine' ev_bank ?k1); (case k1 => walk_at "k00a"))
  | ((with_reducible refine' ev_table ?k1); (case k1 => walk_at "k00a")))
theorem op_isnot_bl {X : Cx} : OpR X (compareOp .IsNot) (fun x y H Q => ∃ b c, x = .bl b ∧ y = .bl c ∧ Q (.bl (!(b == c))) H) := by
  intro pins s σ H x y v u Q I rx ry h
  obtain ⟨b, c, rfl, rfl, q⟩ := h
  cases rx
  cases ry
  exact isnot_bool ⟨.bl (b != c), H, I, rfl, q⟩
def rIsnB : R2 := fun x y H Q => ∃ b c, x = .bl b ∧ y = .bl c ∧ Q (.bl (!(b == c))) H
theorem op_isnB {X : Cx} : OpR X (compareOp .IsNot) rIsnB := op_isnot_bl
theorem ev_isnB {W : Wd} {H0 : Hp} {E : List AV} {ta tb : TE} {x y : Bool} (ha : Ev W H0 ta E (.f (.bool x))) (hb : Ev W H0 tb E (.f (.bool y))) : Ev W H0 (tOp rIsnB ta tb) E (.f (.bool (!(x == y)))) := ev_op ha hb fun v u H j q1 q2 Q k => by
  cases q1
  cases q2
  exact ⟨x, y, rfl, rfl, k _ H (.refl j) (.bl _)⟩
def spLaw (K : PySem.W.Frag) (pL : Addr) : Sp := fun vs H Q _ => ∃ (a : Addr) (ns : List Int), vs = [.ref a] ∧ SqL K H a (ns.map V.int) ∧ H pL = some (.tbl #[]) ∧ ∀ H', Q (.bl true) H'
theorem start_row {tz : TS} {D : Ends} {a : Addr} {σ : L2.St} {H : Hp} (h0 : σ[0]? = some (some (.ref a))) (k : ∀ r, H r = none → tz D (σ.set 1 (some (.ref r))) (upd H r (.lst [.ref a, .int 0, .int 16000, .int 0]))) :
    tSeq (tAsg (tLst (tCons (tVar 0) (tCons (tC (.int 0)) (tCons (tC (.int 16000)) (tCons (tC (.int 0)) tNil))))) (gName 1)) tz D σ H := ⟨.ref a, h0, sz_le (by show 4 ≤ 100000; decide), fun r hr => k r hr⟩
theorem go_run {W : Wd} {H0 H : Hp} {ts : TS} {D : Ends} {E : List AV} {σ : L2.St} (g : Go W H0 ts D E) (S : Sat W H0 E σ H) : ts D σ H := g σ H S
section
variable {P : Program} {w : World} {K : PySem.W.Frag} {mg : Str → Option Value} {base : Heap} {f : Addr} {fd : FuncData}
theorem sc_law : FnScope ["_law_script", "_law_row", "_law_thing", "_law_value", "_law_turn", "_law_some", "_law_call", "_law_names", "_law_line", "_law_good", "_law_made", "_law_state", "_law_answers", "_law_told", "_law_answer", "_law_ask", "_law_one"] ["_law_script"] (defScope (stm 51)) := ⟨rfl, rfl, rfl, by decide +kernel, rfl, by decide +kernel, by decide +kernel⟩
theorem ok_law {cL pL CO CS CC : Addr} (B : Bt mg) (Z_BadObject : Ze K mg "BadObject" CO) (Z_BadState : Ze K mg "BadState" CS) (Z_BadCall : Ze K mg "BadCall" CC)
    (oO : PySem.W.exmOne K (.ref CO) (.ref CO) = some true) (sO : PySem.W.exmOne K (.ref CS) (.ref CO) = some false) (sS : PySem.W.exmOne K (.ref CS) (.ref CS) = some true) (cO : PySem.W.exmOne K (.ref CC) (.ref CO) = some false) (cS : PySem.W.exmOne K (.ref CC) (.ref CS) = some false) (cC : PySem.W.exmOne K (.ref CC) (.ref CC) = some true)
    {a__law_object : Addr} {d__law_object : FuncData} (G__law_object : FnOk P w K mg base CX0 2 a__law_object d__law_object ["_law_row"] (spAny fun i : WT => spObject (Wi K pL i) i.r)) (N__law_object : Kn K mg "_law_object" ["_law_row"] a__law_object d__law_object)
    {a__law_calls : Addr} {d__law_calls : FuncData} (G__law_calls : FnOk P w K mg base CX0 1 a__law_calls d__law_calls ["_law_thing"] (Pr relCallsL)) (N__law_calls : Kn K mg "_law_calls" ["_law_thing"] a__law_calls d__law_calls)
    {a__law_states : Addr} {d__law_states : FuncData} (G__law_states : FnOk P w K mg base CX0 3 a__law_states d__law_states ["_law_thing"] (Pr relStates)) (N__law_states : Kn K mg "_law_states" ["_law_thing"] a__law_states d__law_states)
    {a_is_object : Addr} {d_is_object : FuncData} (G_is_object : FnOk P w K mg base CX0 4 a_is_object d_is_object ["value"] (Pr relKind)) (N_is_object : Kn K mg "is_object" ["value"] a_is_object d_is_object)
    {a__law_alike : Addr} {d__law_alike : FuncData} (G__law_alike : FnOk P w K mg base CX0 7 a__law_alike d__law_alike ["_law_found", "_law_due"] (Pr (relAlike 7))) (N__law_alike : Kn K mg "_law_alike" ["_law_found", "_law_due"] a__law_alike d__law_alike)
    {a_calls : Addr} {d_calls : FuncData} (G_calls : FnOk P w K mg base (L2.CX P w) 5 a_calls d_calls ["thing"] (PrX relCallsX (badObj CO))) (N_calls : Kn K mg "calls" ["thing"] a_calls d_calls)
    {a_first_state : Addr} {d_first_state : FuncData} (G_first_state : FnOk P w K mg base (L2.CX P w) 5 a_first_state d_first_state ["thing"] (PrX relFirst (badObj CO))) (N_first_state : Kn K mg "first_state" ["thing"] a_first_state d_first_state)
    {a_states : Addr} {d_states : FuncData} (G_states : FnOk P w K mg base (L2.CX P w) 5 a_states d_states ["thing"] (PrX relStatesX (badObj CO))) (N_states : Kn K mg "states" ["thing"] a_states d_states)
    {a__law_first : Addr} {d__law_first : FuncData} (G__law_first : FnOk P w K mg base CX0 1 a__law_first d__law_first ["_law_thing"] (Pr relFirst)) (N__law_first : Kn K mg "_law_first" ["_law_thing"] a__law_first d__law_first)
    {a__law_bent : Addr} {d__law_bent : FuncData} (G__law_bent : FnOk P w K mg base CX0 3 a__law_bent d__law_bent ["_law_row", "_law_thing"] (spAny fun i : WT => spBent (Wi K pL i) i.r)) (N__law_bent : Kn K mg "_law_bent" ["_law_row", "_law_thing"] a__law_bent d__law_bent)
    {a__law_is_object : Addr} {d__law_is_object : FuncData} (G__law_is_object : FnOk P w K mg base CX0 3 a__law_is_object d__law_is_object ["_law_value"] (Pr relObjL)) (N__law_is_object : Kn K mg "_law_is_object" ["_law_value"] a__law_is_object d__law_is_object)
    {a_is_call : Addr} {d_is_call : FuncData} (G_is_call : FnOk P w K mg base (L2.CX P w) 5 a_is_call d_is_call ["thing", "value"] (PrX relCallOf (badObj2 CO))) (N_is_call : Kn K mg "is_call" ["thing", "value"] a_is_call d_is_call)
    {a__law_pick : Addr} {d__law_pick : FuncData} (G__law_pick : FnOk P w K mg base CX0 2 a__law_pick d__law_pick ["_law_row", "_law_things"] (spAny fun i : WT => spPick (Wi K pL i) i.r)) (N__law_pick : Kn K mg "_law_pick" ["_law_row", "_law_things"] a__law_pick d__law_pick)
    {a__law_taken : Addr} {d__law_taken : FuncData} (G__law_taken : FnOk P w K mg base CX0 1 a__law_taken d__law_taken ["_law_row", "_law_many"] (spAny fun i : WT => spTaken (Wi K pL i) i.r)) (N__law_taken : Kn K mg "_law_taken" ["_law_row", "_law_many"] a__law_taken d__law_taken)
    {a_applied : Addr} {d_applied : FuncData} (G_applied : FnOk P w K mg base (L2.CX P w) 5 a_applied d_applied ["thing", "state", "call"] (PrX relAppl (badAppl CS CC))) (N_applied : Kn K mg "applied" ["thing", "state", "call"] a_applied d_applied)
    {a__law_do : Addr} {d__law_do : FuncData} (G__law_do : FnOk P w K mg base CX0 2 a__law_do d__law_do ["_law_thing", "_law_state", "_law_call"] (Pr relStep)) (N__law_do : Kn K mg "_law_do" ["_law_thing", "_law_state", "_law_call"] a__law_do d__law_do)
    {a_replayed : Addr} {d_replayed : FuncData} (G_replayed : FnOk P w K mg base (L2.CX P w) 5 a_replayed d_replayed ["thing", "row"] (PrX relRun (badRow CC))) (N_replayed : Kn K mg "replayed" ["thing", "row"] a_replayed d_replayed)
    {gR : Addr} {dR : FuncData} (FR : FnP K "_law_refused" 50 gR dR) (N__law_refused : Kn K mg "_law_refused" ["_law_work"] gR dR)
    {dV kV doc pm ct oc : Value} {an od : Option Addr} {osl : Array (Option Value)} (lk : K.lookup f = some ⟨oc, od, .func (PySem.W.fnOf "law" "law" (defArgs (stm 51)) (defBody (stm 51)) (defScope (stm 51)) dV kV doc pm an (.ref cL) ct), osl⟩) (hcd : PySem.W.codeIn K (.ref cL) "law" = true) (TB : LamX.TabB base mg cL pL) :
    FnOk P w K mg base CX0 8 f (PySem.W.fnOf "law" "law" (defArgs (stm 51)) (defBody (stm 51)) (defScope (stm 51)) dV kV doc pm an (.ref cL) ct) ["_law_script"] (spLaw K pL) := by
  obtain ⟨ocR, odR, dVR, kVR, docR, pmR, anR, cdvR, ctR, oslR, rfl, lkR, hcdR, _, _⟩ := FR.ex
  refine fn_of lk hcd sc_law (fun vs H Q E h => by obtain ⟨a, ns, rfl, _⟩ := h; rfl) (fun A outer s H vs Q E hr h => ?_)
  let TT : List (Addr × Str) := [(pL, ("law" ++ ".<locals>.") ++ "<lambda>")]
  have hmT : (pL, (("law" : Str) ++ ".<locals>.") ++ "<lambda>") ∈ TT := List.mem_singleton.mpr rfl
  have huT : ∀ p ∈ TT, p.1 = pL → p.2 = (("law" : Str) ++ ".<locals>.") ++ "<lambda>" := fun p hp _ => by rw [List.mem_singleton.mp hp]
  refine ⟨_, PSs.nox (pss_cons (ps_set (i := 1) sc_law.nd rfl (Or.inr rfl) (pe_lst (pa_cons (pv 0) (pa_cons pe_int (pa_cons pe_int (pa_cons pe_int pa_nil))))))
      (pss_cons (ps_set (i := 2) sc_law.nd rfl (Or.inr rfl) (k_call G__law_object N__law_object hr (by decide) rfl (pa_cons (pv 1) pa_nil)))
      (pss_cons (ps_asg (pe_tup (pa_cons (k_call G__law_calls N__law_calls hr (by decide) rfl (pa_cons (pv 2) pa_nil)) (pa_cons (k_call G__law_states N__law_states hr (by decide) rfl (pa_cons (pv 2) pa_nil)) pa_nil))) (pg_tup rfl (pgs_cons (pg_name (i := 7) sc_law.nd rfl (Or.inr rfl)) (pgs_cons (pg_name (i := 8) sc_law.nd rfl (Or.inr rfl)) pgs_nil))))
      (pss_cons (ps_if (PW.pt (pw_or (pt_cmpR op_isnB (k_call G_is_object N_is_object hr (by decide) rfl (pa_cons (pv 2) pa_nil)) pe_bl (nomark _)) (pw_or (pt_not (pt_val (k_call G__law_alike N__law_alike hr (by decide) rfl (pa_cons (k_callN G_calls N_calls hr (by decide) rfl (pa_cons (pv 2) pa_nil)) (pa_cons (k_tuple B.tuple rfl (pa_cons (pv 7) pa_nil)) pa_nil))))) (pw_or1 (pt_not (pt_val (k_call G__law_alike N__law_alike hr (by decide) rfl (pa_cons (k_callN G_first_state N_first_state hr (by decide) rfl (pa_cons (pv 2) pa_nil)) (pa_cons (k_call G__law_first N__law_first hr (by decide) rfl (pa_cons (pv 2) pa_nil)) pa_nil))))))))) (pss_one (ps_ret pe_bl)) pss_nil)
      (pss_cons (ps_if (pt_not (pt_val (k_call G__law_alike N__law_alike hr (by decide) rfl (pa_cons (k_callN G_states N_states hr (by decide) rfl (pa_cons (pv 2) pa_nil)) (pa_cons (k_tuple B.tuple rfl (pa_cons (pv 8) pa_nil)) pa_nil))))) (pss_one (ps_ret pe_bl)) pss_nil)
      (pss_cons (ps_for PassesOwn.never rfl (pi_list (k_call G__law_bent N__law_bent hr (by decide) rfl (pa_cons (pv 1) (pa_cons (pv 2) pa_nil)))) (pg_name (i := 3) sc_law.nd rfl (Or.inr rfl)) (pss_cons (ps_set (i := 9) sc_law.nd rfl (Or.inl rfl) (k_call G__law_is_object N__law_is_object hr (by decide) rfl (pa_cons (pv 3) pa_nil)))
      (pss_cons (ps_if (pt_not (pt_val (k_call G__law_alike N__law_alike hr (by decide) rfl (pa_cons (k_call G_is_object N_is_object hr (by decide) rfl (pa_cons (pv 3) pa_nil)) (pa_cons (pv 9) pa_nil))))) (pss_one (ps_ret pe_bl)) pss_nil)
      (pss_one (ps_if (pt_not (pt_val (pv 9))) (pss_cons (ps_setLc (i := 13) (own := [("_law_ask", 15)]) (g := gName 15) rfl sc_law.nd rfl rfl (sw_true rfl rfl rfl (by decide +kernel)) (pi_list (pe_lst (pa_cons (pe_glob (v := .ref a_calls) rfl N_calls.at_ rfl) (pa_cons (pe_glob (v := .ref a_first_state) rfl N_first_state.at_ rfl) (pa_cons (pe_glob (v := .ref a_states) rfl N_states.at_ rfl) pa_nil))))) (blkOk_by (own := [("_law_ask", 15)]) (N := ["_law_script", "_law_row", "_law_thing", "_law_value", "_law_turn", "_law_some", "_law_call", "_law_names", "_law_line", "_law_good", "_law_made", "_law_state", "_law_answers", "_law_told", "_law_answer", "_law_ask", "_law_one"]) (sc := defScope (stm 51)) (by decide +kernel)) (fun _ _ _ _ _ => pg_name (i := 15) sc_law.nd rfl (Or.inr rfl)) (fun _ _ _ _ _ => pts_nil) (fun _ _ _ _ _ => (LamX.pe_lamcall (k := 5) (T := TT) (TT := TT3 K CO CS CC) (Ng := ["_law_work"]) (a := "_law_work") (g := gR) (c := cL) (P := pL) rfl N__law_refused.at_ N__law_refused.kp lkR hcdR N__law_refused.bd sc__law_refused rfl (by exact Or.inl rfl) (refused_gives Z_BadObject.g Z_BadState.g Z_BadCall.g) TB rfl hmT huT (hr.mono (by decide)) (LamX.lamS_by (by rfl)) rfl (fun _ _ _ _ _ => rfl) (fun _ _ _ _ _ _ _ hrl => (pe_or (pe_callL (i := 15) G_calls hrl rfl (Or.inr (Or.inr rfl)) N_calls.kp N_calls.bd .nil (passes_call (takes_of rfl rfl rfl rfl) fun _ _ _ _ h => h) (pa_cons (pv 3) pa_nil)) (pe_or (pe_callL (i := 15) G_first_state hrl rfl (Or.inr (Or.inr rfl)) N_first_state.kp N_first_state.bd .nil (passes_call (takes_of rfl rfl rfl rfl) fun _ _ _ _ h => h) (pa_cons (pv 3) pa_nil)) (pe_callL (i := 15) G_states hrl rfl (Or.inr (Or.inr rfl)) N_states.kp N_states.bd .nil (passes_call (takes_of rfl rfl rfl rfl) fun _ _ _ _ h => h) (pa_cons (pv 3) pa_nil))))))))
      (pss_one (ps_if (pt_cmpR (op_neD hr.units) (pe_op op_cat (pv 13) (pe_lst (pa_cons (LamX.pe_lamcall (k := 5) (T := TT) (TT := TT3 K CO CS CC) (Ng := ["_law_work"]) (a := "_law_work") (g := gR) (c := cL) (P := pL) rfl N__law_refused.at_ N__law_refused.kp lkR hcdR N__law_refused.bd sc__law_refused rfl (by exact Or.inl rfl) (refused_gives Z_BadObject.g Z_BadState.g Z_BadCall.g) TB rfl hmT huT (hr.mono (by decide)) (LamX.lamS_by (by rfl)) rfl (fun _ _ _ _ _ => rfl) (fun _ _ _ _ _ _ _ hrl => (k_callX (takes_of rfl rfl rfl rfl) G_is_call N_is_call hrl (by decide) rfl (pa_cons (pv 3) (pa_cons pe_int pa_nil))))) pa_nil))) (pe_op op_rep (pe_lst (pa_cons pe_str pa_nil)) pe_int) (nomark _)) (pss_one (ps_ret pe_bl)) pss_nil))) pss_nil)))))
      (pss_cons (ps_for PassesOwn.never rfl (pi_range1 (by rfl) B.range (pa_cons pe_int pa_nil)) (pg_name (i := 4) sc_law.nd rfl (Or.inl rfl)) (pss_cons (ps_par (i := 11) (j := 6) rfl sc_law.nd rfl rfl (by decide) rfl rfl (pa_cons (k_call G__law_pick N__law_pick hr (by decide) rfl (pa_cons (pv 1) (pa_cons (pv 8) pa_nil))) (pa_cons (k_call G__law_pick N__law_pick hr (by decide) rfl (pa_cons (pv 1) (pa_cons (pv 7) pa_nil))) pa_nil)) (by rfl))
      (pss_one (ps_if (pt_not (pt_val (k_call G__law_alike N__law_alike hr (by decide) rfl (pa_cons (k_callN G_applied N_applied hr (by decide) rfl (pa_cons (pv 2) (pa_cons (pv 11) (pa_cons (pv 6) pa_nil)))) (pa_cons (k_call G__law_do N__law_do hr (by decide) rfl (pa_cons (pv 2) (pa_cons (pv 11) (pa_cons (pv 6) pa_nil)))) pa_nil))))) (pss_one (ps_ret pe_bl)) pss_nil))))
      (pss_cons (ps_set (i := 5) sc_law.nd rfl (Or.inl rfl) (pe_lst (pa_cons (pe_tup pa_nil) (pa_cons (pe_tup (pa_cons pe_str pa_nil)) (pa_cons (pe_tup (pa_cons pe_str (pa_cons pe_int (pa_cons pe_int pa_nil)))) (pa_cons (pe_op op_catA (pe_ix ix_list (pv 7) pe_int (fun _ _ => rfl)) (pe_tup (pa_cons pe_int pa_nil))) (pa_cons (k_list B.list rfl (pa_cons (pe_ix ix_list (pv 7) pe_int (fun _ _ => rfl)) pa_nil)) (pa_cons (pe_slice sl_tupA (pe_ix ix_list (pv 7) pe_int (fun _ _ => rfl)) po_none (po_some pe_int)) (pa_cons (pe_tup (pa_cons (pe_ix ix_tup (pe_ix ix_list (pv 7) pe_int (fun _ _ => rfl)) pe_int (fun _ _ => rfl)) (pa_cons pe_bl pa_nil))) (pa_cons pe_non (pa_cons pe_str (pa_cons (pe_tup (pa_cons pe_str (pa_cons pe_int pa_nil))) (pa_cons (pe_tup (pa_cons pe_str (pa_cons pe_int (pa_cons pe_int (pa_cons pe_int pa_nil))))) pa_nil)))))))))))))
      (pss_cons (ps_for PassesOwn.never rfl (pi_list (pe_op op_cat (pv 5) (pv 7))) (pg_name (i := 3) sc_law.nd rfl (Or.inr rfl)) (pss_cons (ps_set (i := 9) sc_law.nd rfl (Or.inl rfl) (pe_and (pe_cmpR (op_inD (room65 hr)) (pv 3) (pv 7) (by rfl)) (pe_one (k_call G__law_alike N__law_alike hr (by decide) rfl (pa_cons (pv 3) (pa_cons (pe_ix ix_list (pe_lc (own := [("_law_one", 16)]) (g := gName 16) rfl sc_law.nd (pi_list (pv 7)) (blkOk_by (own := [("_law_one", 16)]) (N := ["_law_script", "_law_row", "_law_thing", "_law_value", "_law_turn", "_law_some", "_law_call", "_law_names", "_law_line", "_law_good", "_law_made", "_law_state", "_law_answers", "_law_told", "_law_answer", "_law_ask", "_law_one"]) (sc := defScope (stm 51)) (by decide +kernel)) (fun _ _ _ _ _ => pg_name (i := 16) sc_law.nd rfl (Or.inl rfl)) (fun _ _ _ _ _ => pts_one (pt_cmpR ((op_eqD hr.units) : OpR _ _ (rEqD K)) (pv 16) (pv 3) (nomark _))) (fun _ _ _ _ _ => (pv 16))) pe_int (fun _ _ => rfl)) pa_nil))))))
      (pss_cons (ps_if (pt_not (pt_val (k_call G__law_alike N__law_alike hr (by decide) rfl (pa_cons (k_callN G_is_call N_is_call hr (by decide) rfl (pa_cons (pv 2) (pa_cons (pv 3) pa_nil))) (pa_cons (pv 9) pa_nil))))) (pss_one (ps_ret pe_bl)) pss_nil)
      (pss_one (ps_if (PW.pt (pw_and (pt_not (pt_val (pv 9))) (pw_and1 (pt_cmpR op_ne (LamX.pe_lamcall (k := 5) (T := TT) (TT := TT3 K CO CS CC) (Ng := ["_law_work"]) (a := "_law_work") (g := gR) (c := cL) (P := pL) rfl N__law_refused.at_ N__law_refused.kp lkR hcdR N__law_refused.bd sc__law_refused rfl (by exact Or.inl rfl) (refused_gives Z_BadObject.g Z_BadState.g Z_BadCall.g) TB rfl hmT huT (hr.mono (by decide)) (LamX.lamS_by (by rfl)) rfl (fun _ _ _ _ _ => rfl) (fun _ _ _ _ _ _ _ hrl => (k_callX (takes_of rfl rfl rfl rfl) G_applied N_applied hrl (by decide) rfl (pa_cons (pv 2) (pa_cons (pe_ix (ix_list : IxR _ (rIxL K)) (pv 8) pe_int (fun _ _ => rfl)) (pa_cons (pv 3) pa_nil)))))) pe_str (nomark _))))) (pss_one (ps_ret pe_bl)) pss_nil)))))
      (pss_cons (ps_for PassesOwn.never rfl (pi_list (pe_lst (pa_cons (pe_tup (pa_cons pe_int (pa_cons pe_int pa_nil))) (pa_cons pe_str (pa_cons (pe_lst (pa_cons pe_int pa_nil)) (pa_cons (pe_un un_neg pe_int) (pa_cons pe_int (pa_cons (pe_tup (pa_cons (pe_tup pa_nil) pa_nil)) pa_nil)))))))) (pg_name (i := 3) sc_law.nd rfl (Or.inr rfl)) (pss_one (ps_if (pt_cmpR op_ne (LamX.pe_lamcall (k := 5) (T := TT) (TT := TT3 K CO CS CC) (Ng := ["_law_work"]) (a := "_law_work") (g := gR) (c := cL) (P := pL) rfl N__law_refused.at_ N__law_refused.kp lkR hcdR N__law_refused.bd sc__law_refused rfl (by exact Or.inl rfl) (refused_gives Z_BadObject.g Z_BadState.g Z_BadCall.g) TB rfl hmT huT (hr.mono (by decide)) (LamX.lamS_by (by rfl)) rfl (fun _ _ _ _ _ => rfl) (fun _ _ _ _ _ _ _ hrl => (k_callX (takes_of rfl rfl rfl rfl) G_applied N_applied hrl (by decide) rfl (pa_cons (pv 2) (pa_cons (pv 3) (pa_cons (pe_ix (ix_list : IxR _ (rIxL K)) (pv 7) pe_int (fun _ _ => rfl)) pa_nil)))))) pe_str (nomark _)) (pss_one (ps_ret pe_bl)) pss_nil)))
      (pss_cons (ps_par3 (i := 10) (j := 11) (l := 12) rfl sc_law.nd rfl rfl rfl (by decide) (by decide) (by decide) rfl rfl rfl (pa_cons (k_tuple B.tuple rfl (pa_cons (pe_lc (own := [("_law_turn", 4)]) (g := gName 4) rfl sc_law.nd (pi_range1 (by rfl) B.range (pa_cons (k_call G__law_taken N__law_taken hr (by decide) rfl (pa_cons (pv 1) (pa_cons pe_int pa_nil))) pa_nil)) (blkOk_by (own := [("_law_turn", 4)]) (N := ["_law_script", "_law_row", "_law_thing", "_law_value", "_law_turn", "_law_some", "_law_call", "_law_names", "_law_line", "_law_good", "_law_made", "_law_state", "_law_answers", "_law_told", "_law_answer", "_law_ask", "_law_one"]) (sc := defScope (stm 51)) (by decide +kernel)) (fun _ _ _ _ _ => pg_name (i := 4) sc_law.nd rfl (Or.inl rfl)) (fun _ _ _ _ _ => pts_nil) (fun _ _ _ _ _ => (k_call G__law_pick N__law_pick hr (by decide) rfl (pa_cons (pv 1) (pa_cons (pv 7) pa_nil))))) pa_nil)) (pa_cons (pe_ix ix_list (pv 8) pe_int (fun _ _ => rfl)) (pa_cons (pe_tup pa_nil) pa_nil))) (by rfl))
      (pss_cons (ps_for PassesOwn.never rfl (pi_tup (pv 10)) (pg_name (i := 6) sc_law.nd rfl (Or.inl rfl)) (pss_cons (ps_asg (k_call G__law_do N__law_do hr (by decide) rfl (pa_cons (pv 2) (pa_cons (pv 11) (pa_cons (pv 6) pa_nil)))) (pg_tup rfl (pgs_cons (pg_name (i := 11) sc_law.nd rfl (Or.inl rfl)) (pgs_cons (pg_name (i := 14) sc_law.nd rfl (Or.inl rfl)) pgs_nil))))
      (pss_one (ps_set (i := 12) sc_law.nd rfl (Or.inl rfl) (pe_op op_catA (pv 12) (pe_tup (pa_cons (pv 14) pa_nil)))))))
      (pss_cons (ps_if (pt_not (pt_val (k_call G__law_alike N__law_alike hr (by decide) rfl (pa_cons (k_callN G_replayed N_replayed hr (by decide) rfl (pa_cons (pv 2) (pa_cons (pv 10) pa_nil))) (pa_cons (pe_tup (pa_cons (pv 12) (pa_cons (pv 11) pa_nil))) pa_nil))))) (pss_one (ps_ret pe_bl)) pss_nil)
      (pss_one (ps_ret (pe_cmpR (op_eqD hr.units) (pe_lc (own := [("_law_value", 3)]) (g := gName 3) rfl sc_law.nd (pi_list (pe_lst (pa_cons pe_non (pa_cons (k_list B.list rfl (pa_cons (pv 10) pa_nil)) (pa_cons (pe_op op_catA (pv 10) (pe_tup (pa_cons pe_non pa_nil))) (pa_cons (pe_tup (pa_cons (pe_op op_catA (pe_slice sl_tupA (pe_ix ix_list (pv 7) pe_int (fun _ _ => rfl)) po_none (po_some pe_int)) (pe_tup (pa_cons pe_int (pa_cons pe_int pa_nil)))) pa_nil)) pa_nil)))))) (blkOk_by (own := [("_law_value", 3)]) (N := ["_law_script", "_law_row", "_law_thing", "_law_value", "_law_turn", "_law_some", "_law_call", "_law_names", "_law_line", "_law_good", "_law_made", "_law_state", "_law_answers", "_law_told", "_law_answer", "_law_ask", "_law_one"]) (sc := defScope (stm 51)) (by decide +kernel)) (fun _ _ _ _ _ => pg_name (i := 3) sc_law.nd rfl (Or.inr rfl)) (fun _ _ _ _ _ => pts_nil) (fun _ _ _ _ _ => (LamX.pe_lamcall (k := 5) (T := TT) (TT := TT3 K CO CS CC) (Ng := ["_law_work"]) (a := "_law_work") (g := gR) (c := cL) (P := pL) rfl N__law_refused.at_ N__law_refused.kp lkR hcdR N__law_refused.bd sc__law_refused rfl (by exact Or.inl rfl) (refused_gives Z_BadObject.g Z_BadState.g Z_BadCall.g) TB rfl hmT huT (hr.mono (by decide)) (LamX.lamS_by (by rfl)) rfl (fun _ _ _ _ _ => rfl) (fun _ _ _ _ _ _ _ hrl => (k_callX (takes_of rfl rfl rfl rfl) G_replayed N_replayed hrl (by decide) rfl (pa_cons (pv 2) (pa_cons (pv 3) pa_nil))))))) (pe_op op_rep (pe_lst (pa_cons pe_str pa_nil)) pe_int) (nomark _))))))))))))))))), ?_⟩
  obtain ⟨a, ns, rfl, hsq, htb, k⟩ := h
  have dR : ∀ {W : Wd} {H1 : Hp} {D : Ends}, D.rt = Q → Ret W H1 D (.f (.bool true)) := fun e v H' n q => by
    cases q
    rw [e]
    exact k H'
  refine start_row (a := a) rfl fun r hr0 => ?_
  obtain ⟨L, hL⟩ : ∃ L : Prop, Scr K ns a L H := by
    rcases hsq with q | q
    · exact ⟨True, .inl ⟨trivial, q⟩⟩
    · exact ⟨False, .inr ⟨id, fun _ => .inr q⟩⟩
  have jW : (Wi K pL ⟨ns, a, r, L⟩).J (upd H r (.lst [.ref a, .int 0, .int 16000, .int 0])) := by
    refine ⟨⟨0, 16000, 0, upd_same, Int.le_refl _⟩, ?_, fun p hp => ?_⟩
    · rcases hL with ⟨l, q⟩ | ⟨l, q⟩
      · refine .inl ⟨l, Rd.upd q fun z => ?_⟩
        have z : a = r := z
        subst z
        rcases q with q | ⟨o, q⟩ <;> (rw [hr0] at q; cases q)
      · exact .inr ⟨l, q⟩
    · rw [List.mem_singleton.mp hp]
      refine LamX.TabS.nil ?_
      show upd H r _ pL = _
      rw [upd_ne (ne_of_none htb hr0)]
      exact htb
  have S0 := (sat_start (W := Wi K pL ⟨ns, a, r, L⟩) (N := ["_law_script", "_law_row", "_law_thing", "_law_value", "_law_turn", "_law_some", "_law_call", "_law_names", "_law_line", "_law_good", "_law_made", "_law_state", "_law_answers", "_law_told", "_law_answer", "_law_ask", "_law_one"]) (as := [.r (.ref a)]) jW (.cons rfl .nil)).set (i := 1) (a := .raw (.ref r)) (v := .ref r) rfl fun _ _ z => by cases z
  refine go_run ?_ S0
  generalize upd H r (.lst [.ref a, .int 0, .int 16000, .int 0]) = H1
  refine q_objA (i := ⟨ns, a, r, L⟩) (n := 1) (j := 2) rfl fun t ht => ?_
  refine q_two2 (i := 7) (j := 8) (ds := t.calls.map Cal.d) (es := t.states.map Sta.d) (ev_callsL (eva_cons (ev_dat rfl) eva_nil) ht) (ev_states (eva_cons (ev_dat rfl) eva_nil) ht) ?_
  have inv := Th.states_inv ht
  have sLen := inv.len ht
  have cOk := Th.calls_all ht
  refine q_guardF (b := false) (EvT.is (et_or (et_test (ev_isnB (ev_kind (eva_cons (ev_dat rfl) eva_nil) (.inl rfl)) ev_bl)) fun _ => et_or (et_not (et_B (ev_alike (n := 7) (d := .tuple (t.calls.map Cal.d)) (e := .tuple (t.calls.map Cal.d)) (eva_cons (ev_callX (as := [.f t.d]) (eva_cons (ev_dat rfl) eva_nil) (.cons coe_rfl .nil) ⟨t, ht, rfl, rfl⟩ trivial) (eva_cons (ev_tupOf (ev_genL (i := 7) rfl (cals_nl _)) (.inr rfl)) eva_nil)) cOk.1 cOk.2 cOk.2))) fun _ => et_not (et_B (ev_alike (n := 7) (d := t.first.d) (e := t.first.d) (eva_cons (ev_callX (as := [.f t.d]) (eva_cons (ev_dat rfl) eva_nil) (.cons coe_rfl .nil) ⟨t, ht, rfl, rfl⟩ trivial) (eva_cons (ev_first (eva_cons (ev_dat rfl) eva_nil) ht) eva_nil)) (fits_sta (okS_len ht (Th.first_ok ht)) 5) ((Sta.sh _).mono (by decide)) ((Sta.sh _).mono (by decide))))) ?v1) rfl ?_
  case v1 =>
    rw [Th.kind ht, alikeN_self cOk.1, alikeN_self (fits_sta (okS_len ht (Th.first_ok ht)) 5)]
    rfl
  have sOk := Th.states_all ht
  refine q_guardF (b := false) (EvT.is (et_not (et_B (ev_alike (n := 7) (d := .tuple (t.states.map Sta.d)) (e := .tuple (t.states.map Sta.d)) (eva_cons (ev_callX (as := [.f t.d]) (eva_cons (ev_dat rfl) eva_nil) (.cons coe_rfl .nil) ⟨t, ht, rfl, rfl⟩ trivial) (eva_cons (ev_tupOf (ev_genL (i := 8) rfl (stas_nl _)) (.inr rfl)) eva_nil)) sOk.1 sOk.2 sOk.2))) (by rw [alikeN_self sOk.1]; rfl)) rfl ?_
  obtain ⟨nm, ps, eT, hnm, hps, shp, nlp, cnm⟩ := Th.parts t
  have bok := bent_ok shp nlp cnm
  refine q_bentA (i := ⟨ns, a, r, L⟩) (n := 1) (m := 2) (j := 3) (ds := ps) (nm := nm) rfl (by rw [← eT]; rfl) hnm hps rfl (fun H2 n2 d hd => ?bent) ?_
  case bent =>
    obtain ⟨shd, hd2⟩ := bok d hd
    refine go_arg (of_decide_eq_true rfl) (hd2.imp id fun e => ⟨_, e⟩) fun x hx => ?_
    obtain ⟨y, hy, hy1, hy2⟩ := ev_argV (W := Wi K pL ⟨ns, a, r, L⟩) (H0 := H2) (E := (((((startE ["_law_script", "_law_row", "_law_thing", "_law_value", "_law_turn", "_law_some", "_law_call", "_law_names", "_law_line", "_law_good", "_law_made", "_law_state", "_law_answers", "_law_told", "_law_answer", "_law_ask", "_law_one"] [.r (.ref a)]).set 1 (.raw (.ref r))).set 2 (.dat t.d)).set 7 (.gen (.list (t.calls.map Cal.d)))).set 8 (.gen (.list (t.states.map Sta.d)))).set 3 x) (i := 3) rfl hx
    refine q_asgF (d := .bool (kindD d)) (ev_objL (eva_cons hy eva_nil) hy2 shd) ?_
    obtain ⟨y2, hz, hz1, hz2⟩ := ev_argV (W := Wi K pL ⟨ns, a, r, L⟩) (H0 := H2) (E := ((((((startE ["_law_script", "_law_row", "_law_thing", "_law_value", "_law_turn", "_law_some", "_law_call", "_law_names", "_law_line", "_law_good", "_law_made", "_law_state", "_law_answers", "_law_told", "_law_answer", "_law_ask", "_law_one"] [.r (.ref a)]).set 1 (.raw (.ref r))).set 2 (.dat t.d)).set 7 (.gen (.list (t.calls.map Cal.d)))).set 8 (.gen (.list (t.states.map Sta.d)))).set 3 x).set 9 (.dat (.bool (kindD d)))) (i := 3) rfl hx
    have shb : Sh 40 (.bool (kindD d)) := Sh.bool _
    refine q_guardF (b := false) (EvT.is (et_not (et_B (ev_alike (n := 7) (d := .bool (kindD d)) (e := .bool (kindD d)) (eva_cons (ev_kind (eva_cons hz eva_nil) hz2) (eva_cons (ev_dat rfl) eva_nil)) rfl shb shb))) (by rw [alikeN_self (by rfl)]; rfl)) rfl ?_
    refine st_if (et_not (et_B (ev_dat rfl))) (fun hb => ?bad) fun hb => st_next fun σ H S => S.wk (.same (.same (.same (.no (.same (.same (.same (.same (.same (.no Wk.rfl))))))))))
    case bad =>
      have hk : kindD d = false := by simpa using hb
      obtain ⟨ar, ar1, ar2, rd⟩ := argV_rd hx
      obtain ⟨b, hb1, hb2⟩ := isArg_coe ar2
      refine q_asgL (ds := [.str "object", .str "object", .str "object"]) (ev_lcA (src := [V.ref a_calls, V.ref a_first_state, V.ref a_states].map .r) (fun _ => .str "object") (evi_raws (eva_cons ev_c (eva_cons ev_c (eva_cons ev_c eva_nil))) (by show 3 ≤ 100000; decide)) (by decide) (by show 3 ≤ 50000; decide) fun z a' ha => ?told) fun pt => ?more
      case told =>
        rcases z with _ | _ | _ | z
        · cases ha
          exact ev_lam (C := CO) (fun Ex => evx_l (evx_callL rfl (eva_cons (rd _ _ _ 3 rfl) eva_nil) (.cons hb1 .nil) ⟨b, d, rfl, hb2, hk, rfl⟩)) (told_O oO)
        · cases ha
          exact ev_lam (C := CO) (fun Ex => evx_r (evx_l (evx_callL rfl (eva_cons (rd _ _ _ 3 rfl) eva_nil) (.cons hb1 .nil) ⟨b, d, rfl, hb2, hk, rfl⟩))) (told_O oO)
        · cases ha
          exact ev_lam (C := CO) (fun Ex => evx_r (evx_r (evx_callL rfl (eva_cons (rd _ _ _ 3 rfl) eva_nil) (.cons hb1 .nil) ⟨b, d, rfl, hb2, hk, rfl⟩))) (told_O oO)
        · cases ha
      case more =>
        refine st_ifF (b := false) (EvT.is (et_test (ev_neD (d := .list [.str "object", .str "object", .str "object", .str "object"]) (e := .list [.str "object", .str "object", .str "object", .str "object"]) (ev_cat (ds := [.str "object", .str "object", .str "object"]) (es := [.str "object"]) (ev_own rfl) (ev_lst (as := [.f (.str "object")]) (eva_cons (ev_lam (C := CO) (fun Ex => evx_call (eva_cons (rd _ _ _ 3 rfl) (eva_cons ev_int eva_nil)) (.cons hb1 (.cons coe_rfl .nil)) ⟨b, d, _, rfl, hb2, hk, rfl⟩) (told_O oO)) eva_nil) rfl (by decide)) (.inr rfl) (.inl rfl) (by decide)) (ev_rep (ds := [.str "object"]) (k := 4) (by walk_at "k00f") ev_int (by decide) (by decide)) rfl rfl (by decide +kernel) (by decide +kernel))) (by decide +kernel)) rfl (st_next fun σ H S => S.wk (.same (.same (.same (.no (.same (.same (.same (.same (.same (.no (.same (.same (.same (.no Wk.rfl)))))))))))))))
  have cLen := Th.calls_len ht
  have sLen1 : 1 ≤ t.states.length := by
    have h := Th.states_head t
    cases e : t.states with
    | nil => rw [e] at h; cases h
    | cons a b => simp
  have mapLen : 0 < (t.calls.map Cal.d).length ∧ (t.calls.map Cal.d).length < 1000000 := by rw [List.length_map]; omega
  have mapLenS : 0 < (t.states.map Sta.d).length ∧ (t.states.map Sta.d).length < 1000000 := by rw [List.length_map]; omega
  refine q_for (E1 := _) (fun _ E' => E' = ((((startE ["_law_script", "_law_row", "_law_thing", "_law_value", "_law_turn", "_law_some", "_law_call", "_law_names", "_law_line", "_law_good", "_law_made", "_law_state", "_law_answers", "_law_told", "_law_answer", "_law_ask", "_law_one"] [.r (.ref a)]).set 1 (.raw (.ref r))).set 2 (.dat t.d)).set 7 (.gen (.list (t.calls.map Cal.d)))).set 8 (.gen (.list (t.states.map Sta.d)))) (evi_rng1 (n := 8) ev_int (by decide)) (fun _ E' p => by rw [p]; rfl) rfl Wk.rfl (fun H2 n2 z a' E' _ p => ?eight) fun E' p => ?_
  case eight =>
    subst p
    refine q_parNN (evA_pick (i := ⟨ns, a, r, L⟩) (ds := t.states.map Sta.d) rfl rfl (stas_nl _) mapLenS) (evA_pick (i := ⟨ns, a, r, L⟩) (ds := t.calls.map Cal.d) rfl rfl (cals_nl _) mapLen) fun d e hd he => ?_
    obtain ⟨s2, hs2, rfl⟩ := List.mem_map.mp hd
    obtain ⟨l2, hl2, rfl⟩ := List.mem_map.mp he
    have ok2 := inv.ok s2 hs2
    have all := stepD_all ht ok2 hl2
    exact st_ifF (b := false) (EvT.is (et_not (et_B (ev_alike (n := 7) (d := t.stepD s2 l2) (e := t.stepD s2 l2) (eva_cons (ev_callX (as := [.f t.d, .f s2.d, .f l2.d]) (eva_cons (ev_dat rfl) (eva_cons (ev_dat rfl) (eva_cons (ev_dat rfl) eva_nil))) (.cons coe_rfl (.cons coe_rfl (.cons coe_rfl .nil))) ⟨t, s2, l2, ht, hs2, hl2, rfl, rfl⟩ trivial) (eva_cons (ev_step (eva_cons (ev_dat rfl) (eva_cons (ev_dat rfl) (eva_cons (ev_dat rfl) eva_nil))) ht ok2 (Th.okC_of hl2)) eva_nil)) all.1 all.2 all.2))) (by rw [alikeN_self all.1]; rfl)) rfl (st_next fun σ H S => ⟨_, rfl, S.wk (.same (.same (.same (.same (.no (.same (.no (.same (.same (.same (.same (.no Wk.rfl))))))))))))⟩)
  subst p
  obtain ⟨c0, hc0⟩ : ∃ c0, t.calls[0]? = some c0 := ⟨t.calls[0], List.getElem?_eq_getElem (by omega)⟩
  have hm0 : c0 ∈ t.calls := List.mem_of_getElem? hc0
  have cL1 : 0 < t.calls.length ∧ t.calls.length < 1000000 := by omega
  show Go _ _ _ _ (EL a r t .no .no .no .no .no .no)
  refine q_asgB (d := .list (someD c0)) (ev_some rfl hc0 (cal_ns10 hm0)) rfl ?_
  show Go _ _ _ _ (EL a r t .no (.gen (.list (someD c0))) .no .no .no .no)
  refine q_askAll ht cO cS cC hc0 ?_
  refine q_badAll ht sO sS hc0 ⟨_, rfl⟩ ?_
  refine q_made (i := ⟨ns, a, r, L⟩) cL1 fun cs hcs hl => ?_
  refine q_turns (i := ⟨ns, a, r, L⟩) ht hcs hl ?_
  exact q_last ht cO cS cC hc0 hcs hl (dR rfl)
end
end K00

/-! Part Head. -/
set_option Elab.async false
set_option linter.all false
set_option maxRecDepth 100000
set_option maxHeartbeats 0
namespace K00
open PySem PySem.Spec PyProof.Rows L2
abbrev rowOf : PySem.W.OpenRow := PySem.W.OpenLaw.row PySem.Challenge.rw_helpedcalls_k00_whole_objects
def defAt (x : Str) (i : Nat) : He.DefD := ⟨(x, none), x, x, defArgs (stm i), defBody (stm i), defScope (stm i), [], []⟩
def defs : List He.DefD :=
  [defAt "is_small" 8, defAt "is_table" 9, defAt "is_bank" 10, defAt "is_kind" 11, defAt "first_in" 12, defAt "calls_in" 13, defAt "bank_calls" 14, defAt "applied_in" 15,
   defAt "on_stack" 16, defAt "on_queue" 17, defAt "on_set" 18, defAt "on_bank" 19, defAt "need_object" 21, defAt "is_object" 22, defAt "first_state" 23, defAt "calls" 24,
   defAt "is_plain_tuple" 25, defAt "is_call_of" 26, defAt "is_call" 27, defAt "need_call" 28, defAt "states_of" 29, defAt "states" 30, defAt "is_same" 31, defAt "need_state" 32,
   defAt "applied" 33, defAt "replay" 34, defAt "replayed" 35, defAt "_law_taken" 37, defAt "_law_pick" 38, defAt "_law_alike" 39, defAt "_law_object" 40, defAt "_law_calls" 41,
   defAt "_law_first" 42, defAt "_law_do" 43, defAt "_law_states" 44, defAt "_law_is_number" 46, defAt "_law_is_rows" 47, defAt "_law_is_object" 48, defAt "_law_bent" 49, defAt "_law_refused" 50, defAt "law" 51]
def facts : List He.Fa :=
  defs.map (fun d => .glo d.name) ++
  [.glo "BadObject", .glo "BadCall", .glo "BadState", .exc "BadObject", .exc "BadCall", .exc "BadState",
   .exm "BadObject" "BadObject" true, .exm "BadState" "BadObject" false, .exm "BadState" "BadState" true, .exm "BadCall" "BadObject" false, .exm "BadCall" "BadState" false, .exm "BadCall" "BadCall" true,
   .int "MOST_VALUES" 5, .int "MOST_ROOM" 3,
   .free "isinstance", .free "int", .free "bool", .free "tuple", .free "list", .free "str", .free "len", .free "all", .free "range", .free "sorted"]
abbrev hook : PySem.W.Hook := He.hookX 5 facts defs [] [("law", none)] (fun _ => true)
def seen (s : PySem.W.SharedT) : He.AlX := He.obsX 5 facts defs [] [("law", none)] (fun _ => true) (HandSHeadRun.getT s)
theorem seen_eq (s : PySem.W.SharedT) : seen s = hook.obs s.abs := He.obsX_eq (HandSHeadRun.getT_eq s)
def loose1 : List Str := ["SharedError", "BadObject", "BadCall", "BadState", "MOST_VALUES", "MOST_ROOM", "is_small", "is_table", "is_bank", "is_kind", "first_in", "calls_in", "bank_calls", "applied_in", "on_stack", "on_queue", "on_set", "on_bank", "need_object", "is_object", "first_state", "calls", "is_plain_tuple", "is_call_of", "is_call", "need_call"]
def loose2 : List Str := ["states_of", "states", "is_same", "need_state", "applied", "replay", "replayed", "_law_taken", "_law_pick", "_law_alike", "_law_object", "_law_calls", "_law_first", "_law_do", "_law_states", "_law_small", "_law_is_number", "_law_is_rows", "_law_is_object", "_law_bent", "_law_refused"]
theorem topRun (w : World) : HandSHeadRun.RunEq rowOf (PySem.W.view rowOf.prog [51]) hook seen 3000 (loose1 ++ loose2) w := by
  intro os
  kernel_rfl
end K00

/-! Part End. -/
set_option Elab.async false
set_option linter.all false
set_option autoImplicit false
set_option maxRecDepth 100000
set_option maxHeartbeats 0
/-! The head's facts, the promises one by one, the end. -/
namespace K00
open PySem PySem.Spec PyProof.Rows L2
theorem law_at {w : World} {mg : Str → Option Value} {fa : Addr} {h : Heap} {K : PySem.W.Frag} (KX : K.In h) (G : h.Ns mainGlobals mg) (hfa : mg ("law" : Str) = some (.ref fa)) (c : He.SaysX facts defs [] [("law", none)] (fun _ => true) w h K) :
    LamX.LawAtS PySem.Challenge.rw_helpedcalls_k00_whole_objects w K CX0 8 63 "_law_script" mg fa h := by
  obtain ⟨d_is_small, F_is_small⟩ : ∃ fd, FnP K "is_small" 8 (He.fAd K ("is_small", none)) fd := c.t.d.def_ 0 (d := defAt "is_small" 8) rfl
  have N_is_small : Kn K mg "is_small" ["value", "low", "high"] (He.fAd K ("is_small", none)) d_is_small := ⟨He.glo_ok KX G (c.t.d.fact 0 (f := .glo "is_small") rfl), F_is_small.kp, F_is_small.bindsN fun _ _ _ _ _ _ us hl => match us, hl with | [_, _, _], _ => rfl⟩
  obtain ⟨d_is_table, F_is_table⟩ : ∃ fd, FnP K "is_table" 9 (He.fAd K ("is_table", none)) fd := c.t.d.def_ 1 (d := defAt "is_table" 9) rfl
  have N_is_table : Kn K mg "is_table" ["rows"] (He.fAd K ("is_table", none)) d_is_table := ⟨He.glo_ok KX G (c.t.d.fact 1 (f := .glo "is_table") rfl), F_is_table.kp, F_is_table.bindsN fun _ _ _ _ _ _ us hl => match us, hl with | [_], _ => rfl⟩
  obtain ⟨d_is_bank, F_is_bank⟩ : ∃ fd, FnP K "is_bank" 10 (He.fAd K ("is_bank", none)) fd := c.t.d.def_ 2 (d := defAt "is_bank" 10) rfl
  have N_is_bank : Kn K mg "is_bank" ["first"] (He.fAd K ("is_bank", none)) d_is_bank := ⟨He.glo_ok KX G (c.t.d.fact 2 (f := .glo "is_bank") rfl), F_is_bank.kp, F_is_bank.bindsN fun _ _ _ _ _ _ us hl => match us, hl with | [_], _ => rfl⟩
  obtain ⟨d_is_kind, F_is_kind⟩ : ∃ fd, FnP K "is_kind" 11 (He.fAd K ("is_kind", none)) fd := c.t.d.def_ 3 (d := defAt "is_kind" 11) rfl
  have N_is_kind : Kn K mg "is_kind" ["value"] (He.fAd K ("is_kind", none)) d_is_kind := ⟨He.glo_ok KX G (c.t.d.fact 3 (f := .glo "is_kind") rfl), F_is_kind.kp, F_is_kind.bindsN fun _ _ _ _ _ _ us hl => match us, hl with | [_], _ => rfl⟩
  obtain ⟨d_first_in, F_first_in⟩ : ∃ fd, FnP K "first_in" 12 (He.fAd K ("first_in", none)) fd := c.t.d.def_ 4 (d := defAt "first_in" 12) rfl
  have N_first_in : Kn K mg "first_in" ["thing"] (He.fAd K ("first_in", none)) d_first_in := ⟨He.glo_ok KX G (c.t.d.fact 4 (f := .glo "first_in") rfl), F_first_in.kp, F_first_in.bindsN fun _ _ _ _ _ _ us hl => match us, hl with | [_], _ => rfl⟩
  obtain ⟨d_calls_in, F_calls_in⟩ : ∃ fd, FnP K "calls_in" 13 (He.fAd K ("calls_in", none)) fd := c.t.d.def_ 5 (d := defAt "calls_in" 13) rfl
  have N_calls_in : Kn K mg "calls_in" ["thing"] (He.fAd K ("calls_in", none)) d_calls_in := ⟨He.glo_ok KX G (c.t.d.fact 5 (f := .glo "calls_in") rfl), F_calls_in.kp, F_calls_in.bindsN fun _ _ _ _ _ _ us hl => match us, hl with | [_], _ => rfl⟩
  obtain ⟨d_bank_calls, F_bank_calls⟩ : ∃ fd, FnP K "bank_calls" 14 (He.fAd K ("bank_calls", none)) fd := c.t.d.def_ 6 (d := defAt "bank_calls" 14) rfl
  have N_bank_calls : Kn K mg "bank_calls" ["many"] (He.fAd K ("bank_calls", none)) d_bank_calls := ⟨He.glo_ok KX G (c.t.d.fact 6 (f := .glo "bank_calls") rfl), F_bank_calls.kp, F_bank_calls.bindsN fun _ _ _ _ _ _ us hl => match us, hl with | [_], _ => rfl⟩
  obtain ⟨d_applied_in, F_applied_in⟩ : ∃ fd, FnP K "applied_in" 15 (He.fAd K ("applied_in", none)) fd := c.t.d.def_ 7 (d := defAt "applied_in" 15) rfl
  have N_applied_in : Kn K mg "applied_in" ["thing", "state", "call"] (He.fAd K ("applied_in", none)) d_applied_in := ⟨He.glo_ok KX G (c.t.d.fact 7 (f := .glo "applied_in") rfl), F_applied_in.kp, F_applied_in.bindsN fun _ _ _ _ _ _ us hl => match us, hl with | [_, _, _], _ => rfl⟩
  obtain ⟨d_on_stack, F_on_stack⟩ : ∃ fd, FnP K "on_stack" 16 (He.fAd K ("on_stack", none)) fd := c.t.d.def_ 8 (d := defAt "on_stack" 16) rfl
  have N_on_stack : Kn K mg "on_stack" ["thing", "state", "call"] (He.fAd K ("on_stack", none)) d_on_stack := ⟨He.glo_ok KX G (c.t.d.fact 8 (f := .glo "on_stack") rfl), F_on_stack.kp, F_on_stack.bindsN fun _ _ _ _ _ _ us hl => match us, hl with | [_, _, _], _ => rfl⟩
  obtain ⟨d_on_queue, F_on_queue⟩ : ∃ fd, FnP K "on_queue" 17 (He.fAd K ("on_queue", none)) fd := c.t.d.def_ 9 (d := defAt "on_queue" 17) rfl
  have N_on_queue : Kn K mg "on_queue" ["thing", "state", "call"] (He.fAd K ("on_queue", none)) d_on_queue := ⟨He.glo_ok KX G (c.t.d.fact 9 (f := .glo "on_queue") rfl), F_on_queue.kp, F_on_queue.bindsN fun _ _ _ _ _ _ us hl => match us, hl with | [_, _, _], _ => rfl⟩
  obtain ⟨d_on_set, F_on_set⟩ : ∃ fd, FnP K "on_set" 18 (He.fAd K ("on_set", none)) fd := c.t.d.def_ 10 (d := defAt "on_set" 18) rfl
  have N_on_set : Kn K mg "on_set" ["state", "call"] (He.fAd K ("on_set", none)) d_on_set := ⟨He.glo_ok KX G (c.t.d.fact 10 (f := .glo "on_set") rfl), F_on_set.kp, F_on_set.bindsN fun _ _ _ _ _ _ us hl => match us, hl with | [_, _], _ => rfl⟩
  obtain ⟨d_on_bank, F_on_bank⟩ : ∃ fd, FnP K "on_bank" 19 (He.fAd K ("on_bank", none)) fd := c.t.d.def_ 11 (d := defAt "on_bank" 19) rfl
  have N_on_bank : Kn K mg "on_bank" ["state", "call"] (He.fAd K ("on_bank", none)) d_on_bank := ⟨He.glo_ok KX G (c.t.d.fact 11 (f := .glo "on_bank") rfl), F_on_bank.kp, F_on_bank.bindsN fun _ _ _ _ _ _ us hl => match us, hl with | [_, _], _ => rfl⟩
  obtain ⟨d_need_object, F_need_object⟩ : ∃ fd, FnP K "need_object" 21 (He.fAd K ("need_object", none)) fd := c.t.d.def_ 12 (d := defAt "need_object" 21) rfl
  have N_need_object : Kn K mg "need_object" ["value"] (He.fAd K ("need_object", none)) d_need_object := ⟨He.glo_ok KX G (c.t.d.fact 12 (f := .glo "need_object") rfl), F_need_object.kp, F_need_object.bindsN fun _ _ _ _ _ _ us hl => match us, hl with | [_], _ => rfl⟩
  obtain ⟨d_is_object, F_is_object⟩ : ∃ fd, FnP K "is_object" 22 (He.fAd K ("is_object", none)) fd := c.t.d.def_ 13 (d := defAt "is_object" 22) rfl
  have N_is_object : Kn K mg "is_object" ["value"] (He.fAd K ("is_object", none)) d_is_object := ⟨He.glo_ok KX G (c.t.d.fact 13 (f := .glo "is_object") rfl), F_is_object.kp, F_is_object.bindsN fun _ _ _ _ _ _ us hl => match us, hl with | [_], _ => rfl⟩
  obtain ⟨d_first_state, F_first_state⟩ : ∃ fd, FnP K "first_state" 23 (He.fAd K ("first_state", none)) fd := c.t.d.def_ 14 (d := defAt "first_state" 23) rfl
  have N_first_state : Kn K mg "first_state" ["thing"] (He.fAd K ("first_state", none)) d_first_state := ⟨He.glo_ok KX G (c.t.d.fact 14 (f := .glo "first_state") rfl), F_first_state.kp, F_first_state.bindsN fun _ _ _ _ _ _ us hl => match us, hl with | [_], _ => rfl⟩
  obtain ⟨d_calls, F_calls⟩ : ∃ fd, FnP K "calls" 24 (He.fAd K ("calls", none)) fd := c.t.d.def_ 15 (d := defAt "calls" 24) rfl
  have N_calls : Kn K mg "calls" ["thing"] (He.fAd K ("calls", none)) d_calls := ⟨He.glo_ok KX G (c.t.d.fact 15 (f := .glo "calls") rfl), F_calls.kp, F_calls.bindsN fun _ _ _ _ _ _ us hl => match us, hl with | [_], _ => rfl⟩
  obtain ⟨d_is_plain_tuple, F_is_plain_tuple⟩ : ∃ fd, FnP K "is_plain_tuple" 25 (He.fAd K ("is_plain_tuple", none)) fd := c.t.d.def_ 16 (d := defAt "is_plain_tuple" 25) rfl
  have N_is_plain_tuple : Kn K mg "is_plain_tuple" ["value"] (He.fAd K ("is_plain_tuple", none)) d_is_plain_tuple := ⟨He.glo_ok KX G (c.t.d.fact 16 (f := .glo "is_plain_tuple") rfl), F_is_plain_tuple.kp, F_is_plain_tuple.bindsN fun _ _ _ _ _ _ us hl => match us, hl with | [_], _ => rfl⟩
  obtain ⟨d_is_call_of, F_is_call_of⟩ : ∃ fd, FnP K "is_call_of" 26 (He.fAd K ("is_call_of", none)) fd := c.t.d.def_ 17 (d := defAt "is_call_of" 26) rfl
  have N_is_call_of : Kn K mg "is_call_of" ["thing", "value"] (He.fAd K ("is_call_of", none)) d_is_call_of := ⟨He.glo_ok KX G (c.t.d.fact 17 (f := .glo "is_call_of") rfl), F_is_call_of.kp, F_is_call_of.bindsN fun _ _ _ _ _ _ us hl => match us, hl with | [_, _], _ => rfl⟩
  obtain ⟨d_is_call, F_is_call⟩ : ∃ fd, FnP K "is_call" 27 (He.fAd K ("is_call", none)) fd := c.t.d.def_ 18 (d := defAt "is_call" 27) rfl
  have N_is_call : Kn K mg "is_call" ["thing", "value"] (He.fAd K ("is_call", none)) d_is_call := ⟨He.glo_ok KX G (c.t.d.fact 18 (f := .glo "is_call") rfl), F_is_call.kp, F_is_call.bindsN fun _ _ _ _ _ _ us hl => match us, hl with | [_, _], _ => rfl⟩
  obtain ⟨d_need_call, F_need_call⟩ : ∃ fd, FnP K "need_call" 28 (He.fAd K ("need_call", none)) fd := c.t.d.def_ 19 (d := defAt "need_call" 28) rfl
  have N_need_call : Kn K mg "need_call" ["thing", "value"] (He.fAd K ("need_call", none)) d_need_call := ⟨He.glo_ok KX G (c.t.d.fact 19 (f := .glo "need_call") rfl), F_need_call.kp, F_need_call.bindsN fun _ _ _ _ _ _ us hl => match us, hl with | [_, _], _ => rfl⟩
  obtain ⟨d_states_of, F_states_of⟩ : ∃ fd, FnP K "states_of" 29 (He.fAd K ("states_of", none)) fd := c.t.d.def_ 20 (d := defAt "states_of" 29) rfl
  have N_states_of : Kn K mg "states_of" ["thing"] (He.fAd K ("states_of", none)) d_states_of := ⟨He.glo_ok KX G (c.t.d.fact 20 (f := .glo "states_of") rfl), F_states_of.kp, F_states_of.bindsN fun _ _ _ _ _ _ us hl => match us, hl with | [_], _ => rfl⟩
  obtain ⟨d_states, F_states⟩ : ∃ fd, FnP K "states" 30 (He.fAd K ("states", none)) fd := c.t.d.def_ 21 (d := defAt "states" 30) rfl
  have N_states : Kn K mg "states" ["thing"] (He.fAd K ("states", none)) d_states := ⟨He.glo_ok KX G (c.t.d.fact 21 (f := .glo "states") rfl), F_states.kp, F_states.bindsN fun _ _ _ _ _ _ us hl => match us, hl with | [_], _ => rfl⟩
  obtain ⟨d_is_same, F_is_same⟩ : ∃ fd, FnP K "is_same" 31 (He.fAd K ("is_same", none)) fd := c.t.d.def_ 22 (d := defAt "is_same" 31) rfl
  have N_is_same : Kn K mg "is_same" ["one", "other"] (He.fAd K ("is_same", none)) d_is_same := ⟨He.glo_ok KX G (c.t.d.fact 22 (f := .glo "is_same") rfl), F_is_same.kp, F_is_same.bindsN fun _ _ _ _ _ _ us hl => match us, hl with | [_, _], _ => rfl⟩
  obtain ⟨d_need_state, F_need_state⟩ : ∃ fd, FnP K "need_state" 32 (He.fAd K ("need_state", none)) fd := c.t.d.def_ 23 (d := defAt "need_state" 32) rfl
  have N_need_state : Kn K mg "need_state" ["thing", "value"] (He.fAd K ("need_state", none)) d_need_state := ⟨He.glo_ok KX G (c.t.d.fact 23 (f := .glo "need_state") rfl), F_need_state.kp, F_need_state.bindsN fun _ _ _ _ _ _ us hl => match us, hl with | [_, _], _ => rfl⟩
  obtain ⟨d_applied, F_applied⟩ : ∃ fd, FnP K "applied" 33 (He.fAd K ("applied", none)) fd := c.t.d.def_ 24 (d := defAt "applied" 33) rfl
  have N_applied : Kn K mg "applied" ["thing", "state", "call"] (He.fAd K ("applied", none)) d_applied := ⟨He.glo_ok KX G (c.t.d.fact 24 (f := .glo "applied") rfl), F_applied.kp, F_applied.bindsN fun _ _ _ _ _ _ us hl => match us, hl with | [_, _, _], _ => rfl⟩
  obtain ⟨d_replay, F_replay⟩ : ∃ fd, FnP K "replay" 34 (He.fAd K ("replay", none)) fd := c.t.d.def_ 25 (d := defAt "replay" 34) rfl
  have N_replay : Kn K mg "replay" ["thing", "row"] (He.fAd K ("replay", none)) d_replay := ⟨He.glo_ok KX G (c.t.d.fact 25 (f := .glo "replay") rfl), F_replay.kp, F_replay.bindsN fun _ _ _ _ _ _ us hl => match us, hl with | [_, _], _ => rfl⟩
  obtain ⟨d_replayed, F_replayed⟩ : ∃ fd, FnP K "replayed" 35 (He.fAd K ("replayed", none)) fd := c.t.d.def_ 26 (d := defAt "replayed" 35) rfl
  have N_replayed : Kn K mg "replayed" ["thing", "row"] (He.fAd K ("replayed", none)) d_replayed := ⟨He.glo_ok KX G (c.t.d.fact 26 (f := .glo "replayed") rfl), F_replayed.kp, F_replayed.bindsN fun _ _ _ _ _ _ us hl => match us, hl with | [_, _], _ => rfl⟩
  obtain ⟨d__law_taken, F__law_taken⟩ : ∃ fd, FnP K "_law_taken" 37 (He.fAd K ("_law_taken", none)) fd := c.t.d.def_ 27 (d := defAt "_law_taken" 37) rfl
  have N__law_taken : Kn K mg "_law_taken" ["_law_row", "_law_many"] (He.fAd K ("_law_taken", none)) d__law_taken := ⟨He.glo_ok KX G (c.t.d.fact 27 (f := .glo "_law_taken") rfl), F__law_taken.kp, F__law_taken.bindsN fun _ _ _ _ _ _ us hl => match us, hl with | [_, _], _ => rfl⟩
  obtain ⟨d__law_pick, F__law_pick⟩ : ∃ fd, FnP K "_law_pick" 38 (He.fAd K ("_law_pick", none)) fd := c.t.d.def_ 28 (d := defAt "_law_pick" 38) rfl
  have N__law_pick : Kn K mg "_law_pick" ["_law_row", "_law_things"] (He.fAd K ("_law_pick", none)) d__law_pick := ⟨He.glo_ok KX G (c.t.d.fact 28 (f := .glo "_law_pick") rfl), F__law_pick.kp, F__law_pick.bindsN fun _ _ _ _ _ _ us hl => match us, hl with | [_, _], _ => rfl⟩
  obtain ⟨d__law_alike, F__law_alike⟩ : ∃ fd, FnP K "_law_alike" 39 (He.fAd K ("_law_alike", none)) fd := c.t.d.def_ 29 (d := defAt "_law_alike" 39) rfl
  have N__law_alike : Kn K mg "_law_alike" ["_law_found", "_law_due"] (He.fAd K ("_law_alike", none)) d__law_alike := ⟨He.glo_ok KX G (c.t.d.fact 29 (f := .glo "_law_alike") rfl), F__law_alike.kp, F__law_alike.bindsN fun _ _ _ _ _ _ us hl => match us, hl with | [_, _], _ => rfl⟩
  obtain ⟨d__law_object, F__law_object⟩ : ∃ fd, FnP K "_law_object" 40 (He.fAd K ("_law_object", none)) fd := c.t.d.def_ 30 (d := defAt "_law_object" 40) rfl
  have N__law_object : Kn K mg "_law_object" ["_law_row"] (He.fAd K ("_law_object", none)) d__law_object := ⟨He.glo_ok KX G (c.t.d.fact 30 (f := .glo "_law_object") rfl), F__law_object.kp, F__law_object.bindsN fun _ _ _ _ _ _ us hl => match us, hl with | [_], _ => rfl⟩
  obtain ⟨d__law_calls, F__law_calls⟩ : ∃ fd, FnP K "_law_calls" 41 (He.fAd K ("_law_calls", none)) fd := c.t.d.def_ 31 (d := defAt "_law_calls" 41) rfl
  have N__law_calls : Kn K mg "_law_calls" ["_law_thing"] (He.fAd K ("_law_calls", none)) d__law_calls := ⟨He.glo_ok KX G (c.t.d.fact 31 (f := .glo "_law_calls") rfl), F__law_calls.kp, F__law_calls.bindsN fun _ _ _ _ _ _ us hl => match us, hl with | [_], _ => rfl⟩
  obtain ⟨d__law_first, F__law_first⟩ : ∃ fd, FnP K "_law_first" 42 (He.fAd K ("_law_first", none)) fd := c.t.d.def_ 32 (d := defAt "_law_first" 42) rfl
  have N__law_first : Kn K mg "_law_first" ["_law_thing"] (He.fAd K ("_law_first", none)) d__law_first := ⟨He.glo_ok KX G (c.t.d.fact 32 (f := .glo "_law_first") rfl), F__law_first.kp, F__law_first.bindsN fun _ _ _ _ _ _ us hl => match us, hl with | [_], _ => rfl⟩
  obtain ⟨d__law_do, F__law_do⟩ : ∃ fd, FnP K "_law_do" 43 (He.fAd K ("_law_do", none)) fd := c.t.d.def_ 33 (d := defAt "_law_do" 43) rfl
  have N__law_do : Kn K mg "_law_do" ["_law_thing", "_law_state", "_law_call"] (He.fAd K ("_law_do", none)) d__law_do := ⟨He.glo_ok KX G (c.t.d.fact 33 (f := .glo "_law_do") rfl), F__law_do.kp, F__law_do.bindsN fun _ _ _ _ _ _ us hl => match us, hl with | [_, _, _], _ => rfl⟩
  obtain ⟨d__law_states, F__law_states⟩ : ∃ fd, FnP K "_law_states" 44 (He.fAd K ("_law_states", none)) fd := c.t.d.def_ 34 (d := defAt "_law_states" 44) rfl
  have N__law_states : Kn K mg "_law_states" ["_law_thing"] (He.fAd K ("_law_states", none)) d__law_states := ⟨He.glo_ok KX G (c.t.d.fact 34 (f := .glo "_law_states") rfl), F__law_states.kp, F__law_states.bindsN fun _ _ _ _ _ _ us hl => match us, hl with | [_], _ => rfl⟩
  obtain ⟨d__law_is_number, F__law_is_number⟩ : ∃ fd, FnP K "_law_is_number" 46 (He.fAd K ("_law_is_number", none)) fd := c.t.d.def_ 35 (d := defAt "_law_is_number" 46) rfl
  have N__law_is_number : Kn K mg "_law_is_number" ["_law_value", "_law_low", "_law_high"] (He.fAd K ("_law_is_number", none)) d__law_is_number := ⟨He.glo_ok KX G (c.t.d.fact 35 (f := .glo "_law_is_number") rfl), F__law_is_number.kp, F__law_is_number.bindsN fun _ _ _ _ _ _ us hl => match us, hl with | [_, _, _], _ => rfl⟩
  obtain ⟨d__law_is_rows, F__law_is_rows⟩ : ∃ fd, FnP K "_law_is_rows" 47 (He.fAd K ("_law_is_rows", none)) fd := c.t.d.def_ 36 (d := defAt "_law_is_rows" 47) rfl
  have N__law_is_rows : Kn K mg "_law_is_rows" ["_law_value"] (He.fAd K ("_law_is_rows", none)) d__law_is_rows := ⟨He.glo_ok KX G (c.t.d.fact 36 (f := .glo "_law_is_rows") rfl), F__law_is_rows.kp, F__law_is_rows.bindsN fun _ _ _ _ _ _ us hl => match us, hl with | [_], _ => rfl⟩
  obtain ⟨d__law_is_object, F__law_is_object⟩ : ∃ fd, FnP K "_law_is_object" 48 (He.fAd K ("_law_is_object", none)) fd := c.t.d.def_ 37 (d := defAt "_law_is_object" 48) rfl
  have N__law_is_object : Kn K mg "_law_is_object" ["_law_value"] (He.fAd K ("_law_is_object", none)) d__law_is_object := ⟨He.glo_ok KX G (c.t.d.fact 37 (f := .glo "_law_is_object") rfl), F__law_is_object.kp, F__law_is_object.bindsN fun _ _ _ _ _ _ us hl => match us, hl with | [_], _ => rfl⟩
  obtain ⟨d__law_bent, F__law_bent⟩ : ∃ fd, FnP K "_law_bent" 49 (He.fAd K ("_law_bent", none)) fd := c.t.d.def_ 38 (d := defAt "_law_bent" 49) rfl
  have N__law_bent : Kn K mg "_law_bent" ["_law_row", "_law_thing"] (He.fAd K ("_law_bent", none)) d__law_bent := ⟨He.glo_ok KX G (c.t.d.fact 38 (f := .glo "_law_bent") rfl), F__law_bent.kp, F__law_bent.bindsN fun _ _ _ _ _ _ us hl => match us, hl with | [_, _], _ => rfl⟩
  obtain ⟨d__law_refused, F__law_refused⟩ : ∃ fd, FnP K "_law_refused" 50 (He.fAd K ("_law_refused", none)) fd := c.t.d.def_ 39 (d := defAt "_law_refused" 50) rfl
  have N__law_refused : Kn K mg "_law_refused" ["_law_work"] (He.fAd K ("_law_refused", none)) d__law_refused := ⟨He.glo_ok KX G (c.t.d.fact 39 (f := .glo "_law_refused") rfl), F__law_refused.kp, F__law_refused.bindsN fun _ _ _ _ _ _ us hl => match us, hl with | [_], _ => rfl⟩
  have fact : ∀ f ∈ facts, f.ok K = true := fun f hf => c.t.d.facts hf
  have B : Bt mg := ⟨He.free_ok KX G (c.t.d.fact 55 (f := .free "isinstance") rfl), He.free_ok KX G (c.t.d.fact 56 (f := .free "int") rfl), He.free_ok KX G (c.t.d.fact 57 (f := .free "bool") rfl), He.free_ok KX G (c.t.d.fact 58 (f := .free "tuple") rfl), He.free_ok KX G (c.t.d.fact 59 (f := .free "list") rfl), He.free_ok KX G (c.t.d.fact 60 (f := .free "str") rfl), He.free_ok KX G (c.t.d.fact 61 (f := .free "len") rfl), He.free_ok KX G (c.t.d.fact 62 (f := .free "all") rfl), He.free_ok KX G (c.t.d.fact 63 (f := .free "range") rfl), He.free_ok KX G (c.t.d.fact 64 (f := .free "sorted") rfl)⟩
  have M : Cn mg := by
    obtain ⟨t1, h1⟩ := He.int_ok KX G (c.t.d.fact 53 (f := .int "MOST_VALUES" 5) rfl)
    obtain ⟨t2, h2⟩ := He.int_ok KX G (c.t.d.fact 54 (f := .int "MOST_ROOM" 3) rfl)
    exact ⟨⟨_, ⟨t1, rfl⟩, h1⟩, ⟨_, ⟨t2, rfl⟩, h2⟩⟩
  have z1 := He.exc_ok (c.t.d.fact 44 (f := .exc "BadObject") rfl)
  have z2 := He.exc_ok (c.t.d.fact 45 (f := .exc "BadCall") rfl)
  have z3 := He.exc_ok (c.t.d.fact 46 (f := .exc "BadState") rfl)
  have Z_BadObject : Ze K mg "BadObject" (He.ga K "BadObject") := ⟨z1.1, z1.2.1, z1.2.2.1, z1.2.2.2, He.glo_ok KX G (c.t.d.fact 41 (f := .glo "BadObject") rfl)⟩
  have Z_BadCall : Ze K mg "BadCall" (He.ga K "BadCall") := ⟨z2.1, z2.2.1, z2.2.2.1, z2.2.2.2, He.glo_ok KX G (c.t.d.fact 42 (f := .glo "BadCall") rfl)⟩
  have Z_BadState : Ze K mg "BadState" (He.ga K "BadState") := ⟨z3.1, z3.2.1, z3.2.2.1, z3.2.2.2, He.glo_ok KX G (c.t.d.fact 43 (f := .glo "BadState") rfl)⟩
  have oO := He.exm_ok (c.t.d.fact 47 (f := .exm "BadObject" "BadObject" true) rfl)
  have sO := He.exm_ok (c.t.d.fact 48 (f := .exm "BadState" "BadObject" false) rfl)
  have sS := He.exm_ok (c.t.d.fact 49 (f := .exm "BadState" "BadState" true) rfl)
  have cO := He.exm_ok (c.t.d.fact 50 (f := .exm "BadCall" "BadObject" false) rfl)
  have cS := He.exm_ok (c.t.d.fact 51 (f := .exm "BadCall" "BadState" false) rfl)
  have cC := He.exm_ok (c.t.d.fact 52 (f := .exm "BadCall" "BadCall" true) rfl)
  obtain ⟨fd, F⟩ : ∃ fd, FnP K "law" 51 (He.fAd K ("law", none)) fd := c.t.d.def_ 40 (d := defAt "law" 51) rfl
  have e := hfa.symm.trans (He.glo_ok KX G (c.t.d.fact 40 (f := .glo "law") rfl))
  have bA := FunD.bindsA (ps := ["_law_script"]) F fun _ _ _ _ _ _ us hl => match us, hl with | [_], _ => rfl
  obtain ⟨oc, od, dV, kV, doc, pm, an, cdv, ct, osl, efd, lk, hcd, _, _⟩ := F.ex
  obtain ⟨cL, ec⟩ := He.codeIn_ref hcd
  subst ec
  have ecc : (He.cT K ("law", none)).1 = cL := He.codeOf_eq lk (by rw [efd])
  have hmem : (("law", none) : He.Defn) ∈ ([("law", none)] : List He.Defn) := List.mem_singleton.mpr rfl
  have hd := c.hd _ hmem
  rw [ecc] at hd
  cases e
  subst efd
  refine ⟨_, [(cL, (He.cT K ("law", none)).2)], spLaw K (He.cT K ("law", none)).2, fun p hp => ?_, fun p hp => ?_, fun p hp => ?_, fun s u => bA s [u] rfl, fun H a ns _ _ hT hS => ?_, fun base KB GB hTB => ?_⟩
  · rw [List.mem_singleton.mp hp]
    exact c.empty _ hmem
  · rw [List.mem_singleton.mp hp]
    exact c.out _ hmem
  · rw [List.mem_singleton.mp hp]
    exact PySem.W.codeHd_of_K KX hd
  · exact ⟨a, ns, rfl, hS, hT (cL, (He.cT K ("law", none)).2) (List.mem_singleton.mpr rfl), fun _ => rfl⟩
  have TB := hTB (cL, (He.cT K ("law", none)).2) (List.mem_singleton.mpr rfl)
  let P : Program := (PySem.Challenge.rw_helpedcalls_k00_whole_objects).prog
  have G_is_small := ok_is_small (P := P) (w := w) (base := base) F_is_small B
  have G_is_table := ok_is_table (P := P) (w := w) (base := base) F_is_table B (G_is_small := G_is_small) (N_is_small := N_is_small)
  have G_is_bank := ok_is_bank (P := P) (w := w) (base := base) F_is_bank B (G_is_small := G_is_small) (N_is_small := N_is_small)
  have G_is_kind := ok_is_kind (P := P) (w := w) (base := base) F_is_kind B (M := M) (G_is_small := G_is_small) (N_is_small := N_is_small) (G_is_bank := G_is_bank) (N_is_bank := N_is_bank) (G_is_table := G_is_table) (N_is_table := N_is_table)
  have G_first_in := ok_first_in (P := P) (w := w) (base := base) F_first_in B
  have G_bank_calls := ok_bank_calls (P := P) (w := w) (base := base) F_bank_calls B
  have G_calls_in := ok_calls_in (P := P) (w := w) (base := base) F_calls_in B (G_bank_calls := G_bank_calls) (N_bank_calls := N_bank_calls)
  have G_on_stack := ok_on_stack (P := P) (w := w) (base := base) F_on_stack B
  have G_on_queue := ok_on_queue (P := P) (w := w) (base := base) F_on_queue B
  have G_on_set := ok_on_set (P := P) (w := w) (base := base) F_on_set B
  have G_on_bank := ok_on_bank (P := P) (w := w) (base := base) F_on_bank B
  have G_applied_in := ok_applied_in (P := P) (w := w) (base := base) F_applied_in B (G_on_stack := G_on_stack) (N_on_stack := N_on_stack) (G_on_queue := G_on_queue) (N_on_queue := N_on_queue) (G_on_set := G_on_set) (N_on_set := N_on_set) (G_on_bank := G_on_bank) (N_on_bank := N_on_bank)
  have G_states_of := ok_states_of (P := P) (w := w) (base := base) F_states_of B (G_first_in := G_first_in) (N_first_in := N_first_in) (G_calls_in := G_calls_in) (N_calls_in := N_calls_in) (G_applied_in := G_applied_in) (N_applied_in := N_applied_in)
  have G_need_object := ok_need_object (P := P) (w := w) (base := base) F_need_object B (Z_BadObject := Z_BadObject) (G_is_kind := G_is_kind) (N_is_kind := N_is_kind)
  have G_is_object := ok_is_object (P := P) (w := w) (base := base) F_is_object B (G_is_kind := G_is_kind) (N_is_kind := N_is_kind)
  have G_first_state := ok_first_state (P := P) (w := w) (base := base) F_first_state B (G_need_object := G_need_object) (N_need_object := N_need_object) (G_first_in := G_first_in) (N_first_in := N_first_in)
  have G_calls := ok_calls (P := P) (w := w) (base := base) F_calls B (G_need_object := G_need_object) (N_need_object := N_need_object) (G_calls_in := G_calls_in) (N_calls_in := N_calls_in)
  have G_states := ok_states (P := P) (w := w) (base := base) F_states B (G_need_object := G_need_object) (N_need_object := N_need_object) (G_states_of := G_states_of) (N_states_of := N_states_of)
  have G_is_plain_tuple := ok_is_plain_tuple (P := P) (w := w) (base := base) F_is_plain_tuple B
  have G_is_call_of := ok_is_call_of (P := P) (w := w) (base := base) F_is_call_of B (G_is_plain_tuple := G_is_plain_tuple) (N_is_plain_tuple := N_is_plain_tuple) (G_calls_in := G_calls_in) (N_calls_in := N_calls_in)
  have G_is_call := ok_is_call (P := P) (w := w) (base := base) F_is_call B (G_need_object := G_need_object) (N_need_object := N_need_object) (G_is_call_of := G_is_call_of) (N_is_call_of := N_is_call_of)
  have G_need_call := ok_need_call (P := P) (w := w) (base := base) F_need_call B (Z_BadCall := Z_BadCall) (G_is_call_of := G_is_call_of) (N_is_call_of := N_is_call_of)
  have G_is_same := ok_is_same (P := P) (w := w) (base := base) F_is_same B (N_is_same := N_is_same)
  have G_need_state := ok_need_state (P := P) (w := w) (base := base) F_need_state B (Z_BadState := Z_BadState) (G_states_of := G_states_of) (N_states_of := N_states_of) (G_is_same := G_is_same) (N_is_same := N_is_same)
  have G_applied := ok_applied (P := P) (w := w) (base := base) F_applied B (G_need_object := G_need_object) (N_need_object := N_need_object) (G_need_state := G_need_state) (N_need_state := N_need_state) (G_need_call := G_need_call) (N_need_call := N_need_call) (G_applied_in := G_applied_in) (N_applied_in := N_applied_in)
  have G_replay := ok_replay (P := P) (w := w) (base := base) F_replay B (G_first_in := G_first_in) (N_first_in := N_first_in) (G_applied_in := G_applied_in) (N_applied_in := N_applied_in)
  have G_replayed := ok_replayed (P := P) (w := w) (base := base) F_replayed B (Z_BadCall := Z_BadCall) (G_need_object := G_need_object) (N_need_object := N_need_object) (G_is_call_of := G_is_call_of) (N_is_call_of := N_is_call_of) (G_replay := G_replay) (N_replay := N_replay)
  have G__law_is_number := ok__law_is_number (P := P) (w := w) (base := base) F__law_is_number B
  have G__law_is_rows := ok__law_is_rows (P := P) (w := w) (base := base) F__law_is_rows B (G__law_is_number := G__law_is_number) (N__law_is_number := N__law_is_number)
  have G__law_is_object := ok__law_is_object (P := P) (w := w) (base := base) F__law_is_object B (G__law_is_number := G__law_is_number) (N__law_is_number := N__law_is_number) (G__law_is_rows := G__law_is_rows) (N__law_is_rows := N__law_is_rows)
  have G__law_first := ok__law_first (P := P) (w := w) (base := base) F__law_first B
  have G__law_do := ok__law_do (P := P) (w := w) (base := base) F__law_do B
  have G__law_calls := ok__law_calls (P := P) (w := w) (base := base) F__law_calls B
  have G__law_states := ok__law_states (P := P) (w := w) (base := base) F__law_states B (G__law_first := G__law_first) (N__law_first := N__law_first) (G__law_calls := G__law_calls) (N__law_calls := N__law_calls) (G__law_do := G__law_do) (N__law_do := N__law_do)
  have G__law_alike := ok__law_alike (P := P) (w := w) (base := base) F__law_alike B N__law_alike 7
  have G__law_taken := fn_any fun i : WT => ok__law_taken (P := P) (w := w) (base := base) (ns := i.ns) (a := i.a) (r := i.r) (L := i.L) (T := [((He.cT K ("law", none)).2, ("law" ++ ".<locals>.") ++ "<lambda>")]) F__law_taken B
  have G__law_pick := fn_any fun i : WT => ok__law_pick (P := P) (w := w) (base := base) F__law_pick B (ok__law_taken (ns := i.ns) (a := i.a) (r := i.r) (L := i.L) (T := [((He.cT K ("law", none)).2, ("law" ++ ".<locals>.") ++ "<lambda>")]) F__law_taken B) N__law_taken
  have G__law_object := fn_any fun i : WT => ok__law_object (P := P) (w := w) (base := base) F__law_object B (ok__law_taken (ns := i.ns) (a := i.a) (r := i.r) (L := i.L) (T := [((He.cT K ("law", none)).2, ("law" ++ ".<locals>.") ++ "<lambda>")]) F__law_taken B) N__law_taken
  have G__law_bent := fn_any fun i : WT => ok__law_bent (P := P) (w := w) (base := base) F__law_bent B (ok__law_pick F__law_pick B (ok__law_taken (ns := i.ns) (a := i.a) (r := i.r) (L := i.L) (T := [((He.cT K ("law", none)).2, ("law" ++ ".<locals>.") ++ "<lambda>")]) F__law_taken B) N__law_taken) N__law_pick
  exact ok_law (P := P) (w := w) (base := base) B Z_BadObject Z_BadState Z_BadCall oO sO sS cO cS cC G__law_object N__law_object G__law_calls N__law_calls G__law_states N__law_states G_is_object N_is_object G__law_alike N__law_alike G_calls N_calls G_first_state N_first_state G_states N_states
    G__law_first N__law_first G__law_bent N__law_bent G__law_is_object N__law_is_object G_is_call N_is_call G__law_pick N__law_pick G__law_taken N__law_taken G_applied N_applied G__law_do N__law_do G_replayed N_replayed F__law_refused N__law_refused lk hcd TB
end K00
open PySem PySem.W PySem.Calls PyProof.Rows
theorem PySem.Challenge.cw_helpedcalls_k00_whole_objects_holds : PySem.Challenge.rw_helpedcalls_k00_whole_objects.Holds := by
  w_on; o_law
  refine HandSHeadRun.head_any (r := K00.rowOf) (q := view K00.rowOf.prog [51]) (H := K00.hook) (ob := K00.seen) (M := 3000) (loose := K00.loose1 ++ K00.loose2) (d := HandSHeadRun.topDef K00.rowOf.prog 51) (kwd := []) K00.seen_eq
    (by kernel_rfl) (fun s => by kernel_rfl) K00.topRun (by kernel_rfl) (by kernel_rfl) (by kernel_rfl) (by rfl) (by first | assumption | decide +kernel) (by decide +kernel) ⟨rfl, rfl, rfl, rfl, rfl, by decide +kernel⟩ ?hw ?hc
  case hw => w_witness2
  case hc =>
    refine LamX.walk_ofTsE (l := PySem.Challenge.rw_helpedcalls_k00_whole_objects) (n := 63) (k := 8) (x := "_law_script") (CX := fun _ => L2.CX0) rfl (by decide) (by kernel_rfl) ⟨rfl, by decide, by decide⟩ ?F (fun _ _ _ _ _ z => z)
    intro w mg fa h Y G hmg0
    obtain ⟨K, KX, c⟩ := Y
    have hmg : mg ("law" : PySem.Str) = some (.ref fa) := by
      have e : (HandSHeadRun.topDef K00.rowOf.prog 51).name = ("law" : PySem.Str) := by kernel_rfl
      rw [← e]
      exact hmg0
    exact ⟨K, KX, K00.law_at KX G hmg c⟩
