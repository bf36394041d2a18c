import PyProof.Rows.All
import Wide.All
import OpenK.AllK
import Wide.FinOn
import HandS.ForMost
import HandS.ForExc
import HandS.Defaults
import HandS.Wide
import HandS.Gcd
import HandS.Flow
import HandS.Deep
import HandS.ExcInit
import HandS.TryMany
import HandS.IsInst
import HandS.TupAny
import HandS.Style
import HandS.SortRule
import KE.KSortTup
import HandS.SortInts
import HandS.More
import KE.GoesEnum
import KE.KDictZip
import KE.KIndexOf
import HandS.Text
import HandS.Star
import HandS.Codes
import HandS.Iter
import KE.KUnpack
import PyProof.EnumMake
import HandS.DictComp
import HandS.ExcOwn
import HandS.ExcField
import HandS.HeadHook2
import HandS.HeadEnd
import HandS.Head3
import HandS.EndBits
import HandS.Words
import PySem.Challenge.RW_rankedwishes_k47_drawn_and_hit
section
set_option Elab.async false
set_option Elab.async false
set_option linter.all false
set_option maxRecDepth 100000
set_option maxHeartbeats 2000000
/-! Values by data, a small heap of what is changed, and how they stand for the abstract heap. -/
namespace Mx
open PySem PySem.Spec PyProof.Rows L2

/-- a value: what never changes by its data, what changes by its number -/
inductive PV where
  | non | bl (b : Bool) | int (i : Int) | str (x : Str)
  | tup (xs : List PV) | lst (xs : List PV)
  | dic (ks : List Key) (xs : List PV)
  | ref (n : Nat)
  | exn (c : Str) (v : PV)
  | fn (f : Str)

/-- what changes -/
inductive MO where
  | lst (xs : List PV)
  | dic (kvs : List (Key × PV))
  | fdic (kvs : List (Key × PV))
  | ins (c : Str) (fs : List (Str × PV))

abbrev MH := List MO

/-- what runs hand on -/
inductive Res (α : Type) where
  | ok (a : α) (h : MH)
  | exn (c : Str) (v : PV) (h : MH)
  | stuck

/-! ### keys -/
/-- the key that a value is -/
def keyOf : PV → Option Key
  | .int i => some (.inl i)
  | .str x => some (.inr x)
  | _ => none

/-! ### how a value stands for one of the layer's -/
/-- the written part, the module's names -/
structure Wr where
  K : PySem.W.Frag
  mg : Str → Option Value
/-- an exception held as a value: its class, its own dict -/
def ExV (C dd a : Addr) : HO := .ext fun h => ∃ (oe : Obj) (vs : Array Value), h.get? a = some oe ∧ oe.cls = .ref C ∧ oe.dict = some dd ∧ oe.data = .fields vs
/-- a tuple whose object is known to have no dict -/
def SqN (K : PySem.W.Frag) (G : Hp) (a : Addr) (xs : List V) : Prop := (∃ o, G a = some (.frz o (.tup xs)) ∧ o.dict = none) ∨
  ∃ (o : Obj) (its : Array Value) (n : Nat), K.lookup a = some o ∧ o.cls = .type "tuple" ∧ o.data = .seq its n ∧ its.size ≤ sizeLine ∧ Vals xs its.toList ∧ o.dict = none
theorem SqN.sqT {K : PySem.W.Frag} {G : Hp} {a : Addr} {xs : List V} (h : SqN K G a xs) : SqT K G a xs := by
  rcases h with ⟨o, h, _⟩ | ⟨o, its, n, h1, h2, h3, h4, h5, _⟩
  · exact .inl (.inr ⟨o, h⟩)
  · exact .inr ⟨o, its, n, h1, h2, h3, h4, h5⟩
theorem Same.seqN {K : PySem.W.Frag} {H H' : Hp} {a : Addr} {xs : List V} (e : Same H H') (h : SqN K H a xs) : SqN K H' a xs := by
  rcases h with ⟨o, h, d⟩ | h
  · exact .inl ⟨o, e _ _ h, d⟩
  · exact .inr h
mutual
inductive RV (K : Wr) (G : Hp) (ι : List Addr) : PV → V → Prop
  | non : RV K G ι .non .non
  | bl (b : Bool) : RV K G ι (.bl b) (.bl b)
  | int (i : Int) : RV K G ι (.int i) (.int i)
  | str (x : Str) : RV K G ι (.str x) (.str x)
  | tup {a : Addr} {xs : List PV} {vs : List V} : SqN K.K G a vs → RVs K G ι xs vs → RV K G ι (.tup xs) (.ref a)
  | lst {a : Addr} {xs : List PV} {vs : List V} : Rd G a (.lst vs) → RVs K G ι xs vs → RV K G ι (.lst xs) (.ref a)
  | dic {a : Addr} {ks : List Key} {xs : List PV} {kvs : List (Key × V)} : Rd G a (.dK kvs) → ks = kvs.map (·.1) → RVs K G ι xs (kvs.map (·.2)) → RV K G ι (.dic ks xs) (.ref a)
  | ref {n : Nat} {a : Addr} : ι[n]? = some a → RV K G ι (.ref n) (.ref a)
  | exn {a C dd : Addr} {c : Str} {x : PV} {v : V} : K.mg c = some (.ref C) → G a = some (ExV C dd a) → G dd = some (.xd [(("value" : Str), v)]) → RV K G ι x v → RV K G ι (.exn c x) (.ref a)
  | fn {f : Str} {a : Addr} : K.mg f = some (.ref a) → RV K G ι (.fn f) (.ref a)
inductive RVs (K : Wr) (G : Hp) (ι : List Addr) : List PV → List V → Prop
  | nil : RVs K G ι [] []
  | cons {x : PV} {v : V} {xs : List PV} {vs : List V} : RV K G ι x v → RVs K G ι xs vs → RVs K G ι (x :: xs) (v :: vs)
end

theorem Same.seqT {K : PySem.W.Frag} {H H' : Hp} {a : Addr} {xs : List V} (e : Same H H') (h : SqT K H a xs) : SqT K H' a xs := by
  rcases h with (h | ⟨o, h⟩) | h
  · exact .inl (.inl (e _ _ h))
  · exact .inl (.inr ⟨o, e _ _ h⟩)
  · exact .inr h

/-- what stood stands; a dict may have been locked -/
def Up (G G' : Hp) : Prop := ∀ b u, G b = some u → G' b = some u ∨ ((∃ kvs, u = .dK kvs) ∧ ∃ o, G' b = some (.frz o u))
theorem Same.up {G G' : Hp} (h : Same G G') : Up G G' := fun b u e => .inl (h b u e)
theorem Up.refl (G : Hp) : Up G G := fun _ _ e => .inl e
theorem Up.trans {A B C : Hp} (h : Up A B) (h' : Up B C) : Up A C := fun b u e => by
  rcases h b u e with q | ⟨⟨kvs, rfl⟩, o, q⟩
  · exact h' b u q
  · rcases h' b _ q with q' | ⟨⟨_, z⟩, _⟩
    · exact .inr ⟨⟨kvs, rfl⟩, o, q'⟩
    · cases z
theorem Up.exact {G G' : Hp} (h : Up G G') {a : Addr} {u : HO} (e : G a = some u) (k : ∀ kvs, u ≠ .dK kvs) : G' a = some u := (h a u e).resolve_right fun ⟨⟨kvs, z⟩, _⟩ => k kvs z
theorem Up.rd {G G' : Hp} (h : Up G G') {a : Addr} {u : HO} (e : Rd G a u) : Rd G' a u := by
  rcases e with e | ⟨o, e⟩
  · rcases h a u e with q | ⟨_, o, q⟩
    · exact .inl q
    · exact .inr ⟨o, q⟩
  · exact .inr ⟨o, h.exact e fun _ z => nomatch z⟩
theorem Up.seqN {K : PySem.W.Frag} {H H' : Hp} {a : Addr} {xs : List V} (e : Up H H') (h : SqN K H a xs) : SqN K H' a xs := by
  rcases h with ⟨o, h, d⟩ | h
  · exact .inl ⟨o, e.exact h (fun _ z => nomatch z), d⟩
  · exact .inr h
theorem Up.seqT {K : PySem.W.Frag} {H H' : Hp} {a : Addr} {xs : List V} (e : Up H H') (h : SqT K H a xs) : SqT K H' a xs := by
  rcases h with (h | ⟨o, h⟩) | h
  · exact .inl (.inl (e.exact h fun _ z => nomatch z))
  · exact .inl (.inr ⟨o, e.exact h fun _ z => nomatch z⟩)
  · exact .inr h

/-- the numbers of before stand for the same -/
def Pre (ι ι' : List Addr) : Prop := ∀ (n : Nat) (a : Addr), ι[n]? = some a → ι'[n]? = some a
theorem Pre.refl (ι : List Addr) : Pre ι ι := fun _ _ h => h
theorem Pre.trans {a b c : List Addr} (h : Pre a b) (h' : Pre b c) : Pre a c := fun n x e => h' n x (h n x e)
theorem Pre.append (ι l : List Addr) : Pre ι (ι ++ l) := fun n a h => by
  have hn : n < ι.length := (List.getElem?_eq_some_iff.mp h).1
  rw [List.getElem?_append_left hn]; exact h

section
variable {K : Wr} {G G' : Hp} {ι ι' : List Addr}
mutual
theorem RV.mono (hs : Up G G') (hp : Pre ι ι') : ∀ {x : PV} {v : V}, RV K G ι x v → RV K G' ι' x v
  | _, _, .non => .non
  | _, _, .bl b => .bl b
  | _, _, .int i => .int i
  | _, _, .str x => .str x
  | _, _, .tup h r => .tup (hs.seqN h) (RVs.mono hs hp r)
  | _, _, .lst h r => .lst (hs.rd h) (RVs.mono hs hp r)
  | _, _, .dic h e r => .dic (hs.rd h) e (RVs.mono hs hp r)
  | _, _, .ref h => .ref (hp _ _ h)
  | _, _, .exn e h1 h2 r => .exn e (hs.exact h1 fun _ z => nomatch z) (hs.exact h2 fun _ z => nomatch z) (RV.mono hs hp r)
  | _, _, .fn e => .fn e
theorem RVs.mono (hs : Up G G') (hp : Pre ι ι') : ∀ {xs : List PV} {vs : List V}, RVs K G ι xs vs → RVs K G' ι' xs vs
  | _, _, .nil => .nil
  | _, _, .cons r t => .cons (RV.mono hs hp r) (RVs.mono hs hp t)
end
theorem RVs.length : ∀ {xs : List PV} {vs : List V}, RVs K G ι xs vs → xs.length = vs.length
  | _, _, .nil => rfl
  | _, _, .cons _ t => congrArg (· + 1) (RVs.length t)
theorem RVs.get : ∀ {xs : List PV} {vs : List V} {i : Nat} {x : PV}, RVs K G ι xs vs → xs[i]? = some x → ∃ v, vs[i]? = some v ∧ RV K G ι x v
  | _, _, _, _, .nil, e => by simp at e
  | _, _, 0, _, .cons r _, e => by simp at e; subst e; exact ⟨_, rfl, r⟩
  | _, _, i + 1, x, .cons _ t, e => by
    obtain ⟨v, h1, h2⟩ := RVs.get (i := i) (x := x) t (by simpa using e)
    exact ⟨v, by simpa using h1, h2⟩
theorem RVs.get' : ∀ {xs : List PV} {vs : List V} {i : Nat} {v : V}, RVs K G ι xs vs → vs[i]? = some v → ∃ x, xs[i]? = some x ∧ RV K G ι x v
  | _, _, _, _, .nil, e => by simp at e
  | _, _, 0, _, .cons r _, e => by simp at e; subst e; exact ⟨_, rfl, r⟩
  | _, _, i + 1, x, .cons _ t, e => by
    obtain ⟨v, h1, h2⟩ := RVs.get' (i := i) (v := x) t (by simpa using e)
    exact ⟨v, by simpa using h1, h2⟩
theorem RVs.append : ∀ {xs ys : List PV} {vs ws : List V}, RVs K G ι xs vs → RVs K G ι ys ws → RVs K G ι (xs ++ ys) (vs ++ ws)
  | _, _, _, _, .nil, s => s
  | _, _, _, _, .cons r t, s => .cons r (RVs.append t s)
theorem RVs.take : ∀ {xs : List PV} {vs : List V} (n : Nat), RVs K G ι xs vs → RVs K G ι (xs.take n) (vs.take n)
  | _, _, 0, _ => .nil
  | _, _, _ + 1, .nil => .nil
  | _, _, n + 1, .cons r t => .cons r (RVs.take n t)
theorem RVs.drop : ∀ {xs : List PV} {vs : List V} (n : Nat), RVs K G ι xs vs → RVs K G ι (xs.drop n) (vs.drop n)
  | _, _, 0, r => r
  | _, _, _ + 1, .nil => .nil
  | _, _, n + 1, .cons _ t => RVs.drop n t
theorem RVs.set {x : PV} {v : V} (r : RV K G ι x v) : ∀ {xs : List PV} {vs : List V} (i : Nat), RVs K G ι xs vs → RVs K G ι (xs.set i x) (vs.set i v)
  | _, _, _, .nil => .nil
  | _, _, 0, .cons _ t => .cons r t
  | _, _, i + 1, .cons q t => .cons q (RVs.set r i t)
theorem RVs.reverse : ∀ {xs : List PV} {vs : List V}, RVs K G ι xs vs → RVs K G ι xs.reverse vs.reverse
  | _, _, .nil => .nil
  | _, _, .cons r t => by
    rw [List.reverse_cons, List.reverse_cons]
    exact (RVs.reverse t).append (.cons r .nil)
theorem RVs.eraseIdx : ∀ {xs : List PV} {vs : List V} (i : Nat), RVs K G ι xs vs → RVs K G ι (xs.eraseIdx i) (vs.eraseIdx i)
  | _, _, _, .nil => .nil
  | _, _, 0, .cons _ t => t
  | _, _, i + 1, .cons r t => .cons r (RVs.eraseIdx i t)
theorem RVs.rep {xs : List PV} {vs : List V} (h : RVs K G ι xs vs) : ∀ k : Nat, RVs K G ι (List.replicate k xs).flatten (List.replicate k vs).flatten
  | 0 => .nil
  | k + 1 => by
    rw [List.replicate_succ, List.replicate_succ, List.flatten_cons, List.flatten_cons]
    exact h.append (RVs.rep h k)
/-- a value's shape tells that of the layer's -/
theorem RV.int_inv {i : Int} {v : V} (r : RV K G ι (.int i) v) : v = .int i := by cases r; rfl
theorem RV.bl_inv {b : Bool} {v : V} (r : RV K G ι (.bl b) v) : v = .bl b := by cases r; rfl
theorem RV.str_inv {x : Str} {v : V} (r : RV K G ι (.str x) v) : v = .str x := by cases r; rfl
theorem RV.non_inv {v : V} (r : RV K G ι .non v) : v = .non := by cases r; rfl
theorem RV.tup_inv {xs : List PV} {v : V} (r : RV K G ι (.tup xs) v) : ∃ a vs, v = .ref a ∧ SqN K.K G a vs ∧ RVs K G ι xs vs := by
  cases r with
  | tup h t => exact ⟨_, _, rfl, h, t⟩
theorem RV.lst_inv {xs : List PV} {v : V} (r : RV K G ι (.lst xs) v) : ∃ a vs, v = .ref a ∧ Rd G a (.lst vs) ∧ RVs K G ι xs vs := by
  cases r with
  | lst h t => exact ⟨_, _, rfl, h, t⟩
theorem RV.ref_inv {n : Nat} {v : V} (r : RV K G ι (.ref n) v) : ∃ a, v = .ref a ∧ ι[n]? = some a := by
  cases r with
  | ref h => exact ⟨_, rfl, h⟩
theorem RVs.nil_inv {vs : List V} (r : RVs K G ι [] vs) : vs = [] := by cases r; rfl
theorem RVs.cons_inv {x : PV} {xs : List PV} {vs : List V} (r : RVs K G ι (x :: xs) vs) : ∃ v ws, vs = v :: ws ∧ RV K G ι x v ∧ RVs K G ι xs ws := by
  cases r with
  | cons h t => exact ⟨_, _, rfl, h, t⟩
end

/-- the attributes -/
def RF (K : Wr) (G : Hp) (ι : List Addr) (fs : List (Str × PV)) (gs : List (Str × V)) : Prop :=
  ∀ f, match fs.lookup f, gs.lookup f with
    | some x, some v => RV K G ι x v
    | none, none => True
    | _, _ => False

/-- what changes, as it stands in the layer's heap -/
inductive RO (K : Wr) (G : Hp) (ι : List Addr) : MO → Option HO → Prop
  | lst {xs : List PV} {vs : List V} : RVs K G ι xs vs → RO K G ι (.lst xs) (some (.lst vs))
  | dic {ps : List (Key × PV)} {kvs : List (Key × V)} : ps.map (·.1) = kvs.map (·.1) → RVs K G ι (ps.map (·.2)) (kvs.map (·.2)) → RO K G ι (.dic ps) (some (.dK kvs))
  | fdic {ps : List (Key × PV)} {kvs : List (Key × V)} {od : Obj} : ps.map (·.1) = kvs.map (·.1) → RVs K G ι (ps.map (·.2)) (kvs.map (·.2)) → RO K G ι (.fdic ps) (some (.frz od (.dK kvs)))
  | ins {c : Str} {fs : List (Str × PV)} {C dx : Addr} {gs : List (Str × V)} : K.mg c = some (.ref C) → (fs.map (·.1)).Nodup → RF K G ι fs gs → RO K G ι (.ins c fs) (some (.ins C dx gs))

theorem RF.mono {K : Wr} {G G' : Hp} {ι ι' : List Addr} {fs : List (Str × PV)} {gs : List (Str × V)} (hs : Up G G') (hp : Pre ι ι') (h : RF K G ι fs gs) : RF K G' ι' fs gs := fun f => by
  have q := h f
  cases e1 : fs.lookup f with
  | none => cases e2 : gs.lookup f with
    | none => trivial
    | some v => rw [e1, e2] at q; exact q.elim
  | some x => cases e2 : gs.lookup f with
    | none => rw [e1, e2] at q; exact q.elim
    | some v => rw [e1, e2] at q; exact RV.mono hs hp q
theorem RO.mono {K : Wr} {G G' : Hp} {ι ι' : List Addr} {o : MO} {u : Option HO} (hs : Up G G') (hp : Pre ι ι') (h : RO K G ι o u) : RO K G' ι' o u := by
  cases h with
  | lst r => exact .lst (r.mono hs hp)
  | dic e r => exact .dic e (r.mono hs hp)
  | fdic e r => exact .fdic e (r.mono hs hp)
  | ins e nd r => exact .ins e nd (r.mono hs hp)

/-- the whole: Z what is being made, G what no longer changes, ι where the changing things stand -/
structure HR (K : Wr) (Z : List Addr) (G : Hp) (ι : List Addr) (h : MH) (H : Hp) : Prop where
  sub : Same G H
  len : ι.length = h.length
  nd : ι.Nodup
  out : ∀ a ∈ ι, ∀ u, G a = some u → ∃ o w, u = .frz o w
  obj : ∀ (n : Nat) (a : Addr) (o : MO), ι[n]? = some a → h[n]? = some o → RO K G ι o (H a)
  zz : ∀ z ∈ Z, G z = none ∧ z ∉ ι ∧ ∃ u, H z = some u

/-- the slots -/
def SR (K : Wr) (G : Hp) (ι : List Addr) (ρ : List (Option PV)) (σ : L2.St) : Prop :=
  ρ.length = σ.length ∧ ∀ (i : Nat) (x : PV), ρ[i]? = some (some x) → ∃ v, σ[i]? = some (some v) ∧ RV K G ι x v
theorem SR.mono {K : Wr} {G G' : Hp} {ι ι' : List Addr} {ρ : List (Option PV)} {σ : L2.St} (hs : Up G G') (hp : Pre ι ι') (h : SR K G ι ρ σ) : SR K G' ι' ρ σ :=
  ⟨h.1, fun i x e => let ⟨v, e1, r⟩ := h.2 i x e; ⟨v, e1, r.mono hs hp⟩⟩

section
variable {K : Wr} {Z : List Addr} {G : Hp} {ι : List Addr} {h : MH} {H : Hp}
theorem same_upd {G : Hp} {p : Addr} {o : HO} (e : G p = none) : Up G (upd G p o) := fun b u q => .inl (by
  rw [upd_ne (ne_of_none q e)]; exact q)
theorem HR.gnone (R : HR K Z G ι h H) {p : Addr} (hp : H p = none) : G p = none := R.sub.free hp
theorem RO.some {o : MO} {u : Option HO} (r : RO K G ι o u) : ∃ w, u = some w := by
  cases r with
  | lst _ => exact ⟨_, rfl⟩
  | dic _ _ => exact ⟨_, rfl⟩
  | fdic _ _ => exact ⟨_, rfl⟩
  | ins _ _ _ => exact ⟨_, rfl⟩
theorem HR.at (R : HR K Z G ι h H) {n : Nat} {a : Addr} (e : ι[n]? = some a) : ∃ o, h[n]? = some o ∧ RO K G ι o (H a) := by
  have hn : n < ι.length := (List.getElem?_eq_some_iff.mp e).1
  have hn' : n < h.length := by rw [← R.len]; exact hn
  exact ⟨h[n], List.getElem?_eq_getElem hn', R.obj n a _ e (List.getElem?_eq_getElem hn')⟩
theorem HR.there (R : HR K Z G ι h H) {a : Addr} (ha : a ∈ ι) : ∃ u, H a = some u := by
  obtain ⟨n, hn, e⟩ := List.mem_iff_getElem.mp ha
  obtain ⟨o, _, r⟩ := R.at (n := n) (a := a) (by rw [List.getElem?_eq_getElem hn, e])
  exact r.some
theorem HR.fresh (R : HR K Z G ι h H) {p : Addr} (hp : H p = none) : p ∉ ι := fun q => by
  obtain ⟨u, e⟩ := R.there q
  rw [hp] at e; cases e
theorem HR.freshZ (R : HR K Z G ι h H) {p : Addr} (hp : H p = none) : p ∉ Z := fun q => by
  obtain ⟨_, _, u, e⟩ := R.zz p q
  rw [hp] at e; cases e
/-- a new thing that no longer changes -/
theorem HR.laid {p : Addr} {o : HO} (R : HR K Z G ι h H) (hp : H p = none) : HR K Z (upd G p o) ι h (upd H p o) := by
  have gp := R.gnone hp
  have np := R.fresh hp
  refine ⟨fun b u q => ?_, R.len, R.nd, fun a ha => ?_, fun n a ob e1 e2 => ?_, fun z hz => ?_⟩
  · by_cases hb : b = p
    · subst hb; rw [upd_same] at q ⊢; exact q
    · rw [upd_ne hb] at q ⊢; exact R.sub b u q
  · have : a ≠ p := fun e => np (e ▸ ha)
    rw [upd_ne this]; exact R.out a ha
  · have : a ≠ p := fun e => np (e ▸ List.mem_of_getElem? e1)
    rw [upd_ne this]
    exact (R.obj n a ob e1 e2).mono (same_upd gp) (Pre.refl _)
  · obtain ⟨z1, z2, u, z3⟩ := R.zz z hz
    have : z ≠ p := fun e => R.freshZ hp (e ▸ hz)
    rw [upd_ne this, upd_ne this]
    exact ⟨z1, z2, u, z3⟩
/-- a new thing that changes -/
theorem HR.alloc {p : Addr} {o : HO} {m : MO} (R : HR K Z G ι h H) (hp : H p = none) (ro : RO K G (ι ++ [p]) m (some o)) : HR K Z G (ι ++ [p]) (h ++ [m]) (upd H p o) := by
  have gp := R.gnone hp
  have np := R.fresh hp
  refine ⟨fun b u q => ?_, by simp [R.len], ?_, fun a ha => ?_, fun n a ob e1 e2 => ?_, fun z hz => ?_⟩
  · rw [upd_ne (ne_of_none q gp)]; exact R.sub b u q
  · rw [List.nodup_append]
    refine ⟨R.nd, by simp, fun a ha b hb => ?_⟩
    have : b = p := by simpa using hb
    subst this
    exact fun e => np (e ▸ ha)
  · rcases List.mem_append.mp ha with ha | ha
    · exact R.out a ha
    · have : a = p := by simpa using ha
      subst this
      intro u q
      rw [gp] at q; cases q
  · by_cases hn : n < ι.length
    · rw [List.getElem?_append_left hn] at e1
      rw [List.getElem?_append_left (by rw [← R.len]; exact hn)] at e2
      have : a ≠ p := fun e => np (e ▸ List.mem_of_getElem? e1)
      rw [upd_ne this]
      exact (R.obj n a ob e1 e2).mono (Up.refl _) (Pre.append _ _)
    · have hn' : n = ι.length := by
        have := (List.getElem?_eq_some_iff.mp e1).1
        rw [List.length_append, List.length_singleton] at this
        omega
      subst hn'
      have e1' : p = a := by simpa using e1
      have e2' : m = ob := by
        rw [R.len] at e2
        simpa using e2
      subst e1' e2'
      rw [upd_same]; exact ro
  · obtain ⟨z1, z2, u, z3⟩ := R.zz z hz
    have hzp : z ≠ p := fun e => R.freshZ hp (e ▸ hz)
    rw [upd_ne hzp]
    refine ⟨z1, fun q => ?_, u, z3⟩
    rcases List.mem_append.mp q with q | q
    · exact z2 q
    · exact hzp (by simpa using q)
/-- a changing thing changes -/
theorem HR.put {n : Nat} {a : Addr} {o : HO} {m : MO} (R : HR K Z G ι h H) (e : ι[n]? = some a) (hm : ∀ o w, H a ≠ some (.frz o w)) (ro : RO K G ι m (some o)) : HR K Z G ι (h.set n m) (upd H a o) := by
  have ha : a ∈ ι := List.mem_of_getElem? e
  have ga : G a = none := by
    cases q : G a with
    | none => rfl
    | some u =>
      obtain ⟨od, w, rfl⟩ := R.out a ha u q
      exact absurd (R.sub _ _ q) (hm od w)
  refine ⟨fun b u q => ?_, by simp [R.len], R.nd, R.out, fun k b ob e1 e2 => ?_, fun z hz => ?_⟩
  · rw [upd_ne (ne_of_none q ga)]; exact R.sub b u q
  · by_cases hk : k = n
    · subst hk
      rw [e] at e1; cases e1
      have hl : k < h.length := by rw [← R.len]; exact (List.getElem?_eq_some_iff.mp e).1
      rw [List.getElem?_set_self hl] at e2; cases e2
      rw [upd_same]; exact ro
    · rw [List.getElem?_set_ne (Ne.symm hk)] at e2
      have : b ≠ a := fun q => by
        subst q
        obtain ⟨h1, q1⟩ := List.getElem?_eq_some_iff.mp e
        obtain ⟨h2, q2⟩ := List.getElem?_eq_some_iff.mp e1
        exact hk ((List.getElem_inj R.nd).mp (q2.trans q1.symm))
      rw [upd_ne this]
      exact R.obj k b ob e1 e2
  · obtain ⟨z1, z2, u, z3⟩ := R.zz z hz
    have : z ≠ a := fun q => z2 (q ▸ ha)
    rw [upd_ne this]
    exact ⟨z1, z2, u, z3⟩
end

/-! ### what a def leaves behind -/
mutual
/-- all numbers in a value are below n -/
def below (n : Nat) : PV → Prop
  | .non => True
  | .bl _ => True
  | .int _ => True
  | .str _ => True
  | .tup xs => belows n xs
  | .lst xs => belows n xs
  | .dic ks xs => belows n xs
  | .ref k => k < n
  | .exn _ v => below n v
  | .fn _ => True
def belows (n : Nat) : List PV → Prop
  | [] => True
  | x :: xs => below n x ∧ belows n xs
end
def belowO (n : Nat) : MO → Prop
  | .lst xs => belows n xs
  | .dic ps => belows n (ps.map (·.2))
  | .fdic ps => belows n (ps.map (·.2))
  | .ins _ fs => belows n (fs.map (·.2))
/-- what was there has no new things in it -/
def tidy (h0 h' : MH) : Prop := ∀ (n : Nat) (o : MO), n < h0.length → h'[n]? = some o → h0[n]? = some o ∨ belowO h0.length o
def thaw (n0 : Nat) (h : MH) : PV → PV
  | .ref n => if n < n0 then .ref n else match h[n]? with
    | some (.lst xs) => .lst xs
    | some (.dic ps) => .dic (ps.map (·.1)) (ps.map (·.2))
    | some (.fdic ps) => .dic (ps.map (·.1)) (ps.map (·.2))
    | _ => .ref n
  | v => v
open Classical in
/-- behind a def: its new things are dropped, a new list that it tells no longer changes -/
noncomputable def leave (h0 : MH) (v : PV) (h' : MH) : PV × MH :=
  if below h0.length (thaw h0.length h' v) ∧ tidy h0 h' ∧ h0.length ≤ h'.length then (thaw h0.length h' v, h'.take h0.length) else (v, h')

section
variable {K : Wr} {Z : List Addr} {G G' : Hp} {ι ι' : List Addr} {h h' : MH} {H H' : Hp}
mutual
theorem RV.bel {n : Nat} (hn : ι.length ≤ n) : ∀ {x : PV} {v : V}, RV K G ι x v → below n x
  | _, _, .non => trivial
  | _, _, .bl _ => trivial
  | _, _, .int _ => trivial
  | _, _, .str _ => trivial
  | _, _, .tup _ r => RVs.bels hn r
  | _, _, .lst _ r => RVs.bels hn r
  | _, _, .dic _ _ r => RVs.bels hn r
  | _, _, .ref h => Nat.lt_of_lt_of_le (List.getElem?_eq_some_iff.mp h).1 hn
  | _, _, .exn (x := x) _ _ _ r => (show below n x from RV.bel hn r)
  | _, _, .fn _ => trivial
theorem RVs.bels {n : Nat} (hn : ι.length ≤ n) : ∀ {xs : List PV} {vs : List V}, RVs K G ι xs vs → belows n xs
  | _, _, .nil => trivial
  | _, _, .cons r t => ⟨RV.bel hn r, RVs.bels hn t⟩
end
theorem belows_mem {n : Nat} : ∀ {xs : List PV}, (∀ x ∈ xs, below n x) → belows n xs
  | [], _ => trivial
  | x :: xs, h => ⟨h x List.mem_cons_self, belows_mem fun y hy => h y (List.mem_cons_of_mem _ hy)⟩
theorem belows_of {n : Nat} : ∀ {xs : List PV}, belows n xs → ∀ x ∈ xs, below n x
  | x :: xs, h, y, hy => by
    rcases List.mem_cons.mp hy with rfl | hy
    · exact h.1
    · exact belows_of h.2 y hy
theorem lookup_of_mem_nodup {f : Str} : ∀ {fs : List (Str × PV)} {x : PV}, fs.lookup f = some x → (f, x) ∈ fs
  | (g, y) :: fs, x, h => by
    rw [List.lookup_cons] at h
    cases hb : f == g with
    | true => rw [hb] at h; cases h; rw [beq_iff_eq.mp hb]; exact List.mem_cons_self
    | false => rw [hb] at h; exact List.mem_cons_of_mem _ (lookup_of_mem_nodup h)
mutual
theorem RV.cut {n : Nat} (hs : Up G G') : ∀ {x : PV} {v : V}, RV K G ι x v → below n x → RV K G' (ι.take n) x v
  | _, _, .non, _ => .non
  | _, _, .bl b, _ => .bl b
  | _, _, .int i, _ => .int i
  | _, _, .str x, _ => .str x
  | _, _, .tup h r, q => .tup (hs.seqN h) (RVs.cut hs r q)
  | _, _, .lst h r, q => .lst (hs.rd h) (RVs.cut hs r q)
  | _, _, .dic h e r, q => .dic (hs.rd h) e (RVs.cut hs r q)
  | _, _, .ref h, q => .ref (by rw [List.getElem?_take_of_lt q]; exact h)
  | _, _, .exn (x := x) e h1 h2 r, q => .exn e (hs.exact h1 fun _ z => nomatch z) (hs.exact h2 fun _ z => nomatch z) (RV.cut hs r (show below n x from q))
  | _, _, .fn e, _ => .fn e
theorem RVs.cut {n : Nat} (hs : Up G G') : ∀ {xs : List PV} {vs : List V}, RVs K G ι xs vs → belows n xs → RVs K G' (ι.take n) xs vs
  | _, _, .nil, _ => .nil
  | _, _, .cons r t, q => .cons (RV.cut hs r q.1) (RVs.cut hs t q.2)
end
theorem RF.cut {n : Nat} (hs : Up G G') {fs : List (Str × PV)} {gs : List (Str × V)} (r : RF K G ι fs gs) (q : belows n (fs.map (·.2))) : RF K G' (ι.take n) fs gs := fun f => by
  have z := r f
  cases e1 : fs.lookup f with
  | none => cases e2 : gs.lookup f with
    | none => trivial
    | some v => rw [e1, e2] at z; exact z.elim
  | some x => cases e2 : gs.lookup f with
    | none => rw [e1, e2] at z; exact z.elim
    | some v =>
      rw [e1, e2] at z
      exact RV.cut hs z (belows_of q x (List.mem_map.mpr ⟨(f, x), lookup_of_mem_nodup e1, rfl⟩))
theorem RO.cut {n : Nat} (hs : Up G G') {o : MO} {u : Option HO} (r : RO K G ι o u) (q : belowO n o) : RO K G' (ι.take n) o u := by
  cases r with
  | lst r => exact .lst (r.cut hs q)
  | dic e r => exact .dic e (r.cut hs q)
  | fdic e r => exact .fdic e (r.cut hs q)
  | ins e nd r => exact .ins e nd (r.cut hs q)
theorem RF.bels {n : Nat} (hn : ι.length ≤ n) : ∀ {fs : List (Str × PV)} {gs : List (Str × V)}, (fs.map (·.1)).Nodup → RF K G ι fs gs → belows n (fs.map (·.2)) := fun {fs gs} nd r => by
  refine belows_mem fun x hx => ?_
  obtain ⟨⟨f, y⟩, hy, rfl⟩ := List.mem_map.mp hx
  have e : fs.lookup f = some y := by
    clear hx r
    induction fs with
    | nil => simp at hy
    | cons p fs ih =>
      obtain ⟨g, z⟩ := p
      rw [List.lookup_cons]
      rw [List.map_cons, List.nodup_cons] at nd
      rcases List.mem_cons.mp hy with e | hy2
      · cases e; simp
      · have : (f == g) = false := by
          refine beq_eq_false_iff_ne.mpr fun e => ?_
          subst e
          exact nd.1 (List.mem_map.mpr ⟨(f, y), hy2, rfl⟩)
        rw [this]
        exact ih nd.2 hy2
  have z := r f
  rw [e] at z
  cases e2 : gs.lookup f with
  | none => rw [e2] at z; exact z.elim
  | some v => rw [e2] at z; exact RV.bel hn z
theorem RO.bel {n : Nat} (hn : ι.length ≤ n) {o : MO} {u : Option HO} (r : RO K G ι o u) : belowO n o := by
  cases r with
  | lst r => exact r.bels hn
  | dic e r => exact r.bels hn
  | fdic e r => exact r.bels hn
  | ins e nd r => exact RF.bels hn nd r
theorem pre_take {ι ι' : List Addr} (hp : Pre ι ι') (hl : ι.length ≤ ι'.length) : ι'.take ι.length = ι := by
  apply List.ext_getElem?
  intro i
  by_cases hi : i < ι.length
  · rw [List.getElem?_take_of_lt hi]
    exact hp i _ (List.getElem?_eq_getElem hi) |>.trans (List.getElem?_eq_getElem hi).symm
  · rw [List.getElem?_eq_none (by rw [List.length_take]; omega), List.getElem?_eq_none (by omega)]
open Classical in
/-- what stands behind a def, its new things no longer changing -/
noncomputable def gone (G' : Hp) (l : List Addr) (H' : Hp) : Hp := fun b => if b ∈ l then H' b else G' b
/-- the new things of a def are dropped -/
theorem HR.cutTo (R0 : HR K Z G ι h H) (R : HR K Z G' ι' h' H') (hp : Pre ι ι') (ht : tidy h h') (hl : h.length ≤ h'.length) :
    ∃ G'', Up G' G'' ∧ ι'.take h.length = ι ∧ HR K Z G'' ι (h'.take h.length) H' ∧ ∀ a ∈ ι'.drop ι.length, G'' a = H' a := by
  classical
  have hl' : ι.length ≤ ι'.length := by rw [R0.len, R.len]; exact hl
  have et : ι'.take ι.length = ι := pre_take hp hl'
  have et' : ι'.take h.length = ι := by rw [← R0.len]; exact et
  have hd : ∀ a ∈ ι'.drop ι.length, a ∈ ι' ∧ a ∉ ι := fun a ha => by
    refine ⟨List.mem_of_mem_drop ha, fun q => ?_⟩
    have nd' := R.nd
    rw [← List.take_append_drop ι.length ι', et] at nd'
    exact (List.nodup_append.mp nd').2.2 a q a ha rfl
  have hs : Up G' (gone G' (ι'.drop ι.length) H') := fun b u q => .inl (by
    unfold gone
    by_cases hb : b ∈ ι'.drop ι.length
    · rw [if_pos hb]; exact R.sub _ _ q
    · rw [if_neg hb]; exact q)
  refine ⟨gone G' (ι'.drop ι.length) H', hs, et', ⟨fun b u q => ?_, by rw [List.length_take, Nat.min_eq_left hl, R0.len], R0.nd, fun a ha => ?_, fun n a o e1 e2 => ?_, fun z hz => ?_⟩, fun a ha => if_pos ha⟩
  · unfold gone at q
    by_cases hb : b ∈ ι'.drop ι.length
    · rw [if_pos hb] at q; exact q
    · rw [if_neg hb] at q; exact R.sub b u q
  · unfold gone
    have : a ∉ ι'.drop ι.length := fun q => (hd a q).2 ha
    rw [if_neg this]
    obtain ⟨n, hn, e⟩ := List.mem_iff_getElem.mp ha
    exact R.out a (List.mem_of_getElem? (hp n a (by rw [List.getElem?_eq_getElem hn, e])))
  · have hn : n < ι.length := (List.getElem?_eq_some_iff.mp e1).1
    have hn' : n < h.length := by rw [← R0.len]; exact hn
    rw [List.getElem?_take_of_lt hn'] at e2
    have ro := R.obj n a o (hp n a e1) e2
    have hb : belowO h.length o := by
      rcases ht n o hn' e2 with q | q
      · have r0 := R0.obj n a o e1 q
        exact r0.bel (by rw [R0.len]; exact Nat.le_refl _)
      · exact q
    have := ro.cut hs hb
    rwa [et'] at this
  · obtain ⟨z1, z2, z3⟩ := R.zz z hz
    unfold gone
    have : z ∉ ι'.drop ι.length := fun q => z2 (hd z q).1
    rw [if_neg this]
    refine ⟨z1, fun q => ?_, z3⟩
    obtain ⟨n, hn, e⟩ := List.mem_iff_getElem.mp q
    exact z2 (List.mem_of_getElem? (hp n z (by rw [List.getElem?_eq_getElem hn, e])))
end
end Mx

end

section
set_option Elab.async false
set_option Elab.async false
set_option linter.all false
set_option maxRecDepth 100000
set_option maxHeartbeats 2000000
/-! The small language: its syntax, what it does. -/
namespace Mx
open PySem PySem.Spec PyProof.Rows L2

inductive Bo where
  | add | sub | mul | fdiv | mod | pow
  deriving DecidableEq
inductive Co where
  | eq | ne | lt | le | gt | ge | isN | isntN | isB | isntB | inn | nin
  deriving DecidableEq
/-- built-in functions and types that are called -/
inductive Bi where
  | len | abs | min | max | int | tuple | list | any | all | gcd | sorted | dict | sum | min1 | max1 | repr | str
  deriving DecidableEq
/-- methods of built-in types -/
inductive Mt where
  | append | extend | pop | insert | index | reverse | clear | get | join | upper | tindex
  deriving DecidableEq

mutual
inductive Ae where
  | v (i : Nat)
  | non | bl (b : Bool) | int (i : Int) | str (x : Str)
  | con (x : Str)
  | tup (es : Aes)
  | lst (r : Bool) (es : Aes)
  | bin (op : Bo) (r : Bool) (a b : Ae)
  | neg (a : Ae)
  | not (a : Ae)
  | cmp (op : Co) (a b : Ae)
  | chain (op op' : Co) (a b c : Ae)
  | and (es : Aes)
  | or (es : Aes)
  | ifx (c a b : Ae)
  | ix (a i : Ae)
  | sl (r : Bool) (a : Ae) (lo hi : Ao)
  | call (f : Str) (es : Aes) (ks : List Str) (kes : Aes)
  | blt (f : Bi) (r : Bool) (es : Aes)
  | isi (a : Ae) (ts : List String)
  | met (m : Mt) (r : Bool) (o : Ae) (es : Aes)
  | tupS (es : Aes)
  | lstS (r : Bool) (es : Aes)
  | rev (r : Bool) (a : Ae)
  | dnew (ps : Aps)
  | dzip (a b : Ae)
  | fnv (f : Str)
  | calv (i : Nat) (es : Aes)
  | comp (r : Bool) (elt : Ae) (g : Ag) (it : Ai) (ifs : Ao) (own : List (Str × Nat))
  | comp2 (r : Bool) (elt : Ae) (g : Ag) (it : Ai) (g2 : Ag) (it2 : Ai) (own : List (Str × Nat)) (vs2 : List Nat)
  | dcomp (k v : Ae) (g : Ag) (it : Ai) (ifs : Ao) (own : List (Str × Nat))
  | sls (r : Bool) (a : Ae) (lo : Ao) (st : Nat)
  | val (i : Nat)
inductive Aes where
  | nil
  | cons (e : Ae) (es : Aes)
  | star (e : Ae) (es : Aes)
inductive Aps where
  | nil
  | cons (k v : Ae) (ps : Aps)
inductive Ao where
  | none
  | some (e : Ae)
inductive Ai where
  | ex (e : Ae)
  | range1 (e : Ae)
  | range2 (a b : Ae)
  | range3 (a b c : Ae)
  | zip2 (a b : Ae)
  | zip3 (a b c : Ae)
  | enum (a : Ae)
  | rev (a : Ae)
inductive Ag where
  | nm (i : Nat)
  | tp (gs : Ags)
inductive Ags where
  | nil
  | cons (g : Ag) (gs : Ags)
end
mutual
inductive As where
  | ex (e : Ae)
  | set (g : Ag) (e : Ae)
  | put (o i e : Ae)
  | aug (i : Nat) (op : Bo) (e : Ae)
  | augs (o i : Ae) (op : Bo) (e : Ae)
  | ite (c : Ae) (a b : Ass)
  | whl (c : Ae) (b : Ass)
  | for (g : Ag) (it : Ai) (b : Ass)
  | ret (e : Ae)
  | retN
  | rais (c : Str) (e : Ae) (kw : Bool)
  | try (b : Ass) (hs : Ahs)
  | brk | cnt | pas
inductive Ass where
  | nil
  | cons (s : As) (ss : Ass)
inductive Ahs where
  | nil
  | cons (c : Str) (n : Option Nat) (b : Ass) (hs : Ahs)
end

def Aes.len : Aes → Nat
  | .nil => 0
  | .cons _ es => es.len + 1
  | .star _ es => es.len + 1
def Aps.len : Aps → Nat
  | .nil => 0
  | .cons _ _ ps => ps.len + 1
/-- a def: how many parameters, how many names, the body -/
structure Fn where
  ns : Nat
  ps : List Str
  body : Ass
  kp : Bool := false
/-- a program: its defs, its constants, which class is below which -/
structure Pg where
  fns : Str → Option Fn
  con : Str → Option PV
  exc : List Str

/-! ### what runs hand on -/
def Res.bind {α β : Type} : Res α → (α → MH → Res β) → Res β
  | .ok a h, f => f a h
  | .exn c v h, _ => .exn c v h
  | .stuck, _ => .stuck
/-- no exception may leave -/
def Res.nox {α : Type} : Res α → Res α
  | .exn _ _ _ => .stuck
  | r => r

/-! ### data -/
mutual
/-- a value without numbers of changing things, as the library's data; rd: what a changing thing is read as -/
def toD (rd : Nat → Option PyData) : PV → Option PyData
  | .non => some .none
  | .bl b => some (.bool b)
  | .int i => some (.int i)
  | .str x => some (.str x)
  | .tup xs => (toDs rd xs).map .tuple
  | .lst xs => (toDs rd xs).map .list
  | .dic _ _ => none
  | .ref n => rd n
  | .exn _ _ => none
  | .fn _ => none
def toDs (rd : Nat → Option PyData) : List PV → Option (List PyData)
  | [] => some []
  | x :: xs => match toD rd x, toDs rd xs with
    | some d, some ds => some (d :: ds)
    | _, _ => none
end
def rd0 (h : MH) (n : Nat) : Option PyData := match h[n]? with
  | some (.lst xs) => (toDs (fun _ => none) xs).map .list
  | _ => none
def rd1 (h : MH) (n : Nat) : Option PyData := match h[n]? with
  | some (.lst xs) => (toDs (rd0 h) xs).map .list
  | _ => none
def flat : PV → Bool
  | .non => true
  | .bl _ => true
  | .int _ => true
  | .str _ => true
  | _ => false
/-- == of values without parts -/
def eqF : PV → PV → Bool
  | .non, .non => true
  | .bl a, .bl b => a == b
  | .bl a, .int b => (if a then 1 else 0) == b
  | .int a, .bl b => a == (if b then 1 else 0)
  | .int a, .int b => a == b
  | .str a, .str b => a == b
  | _, _ => false
/-- two values without parts whose == is told at once -/
def scalP : PV → PV → Bool
  | .non, .non => true | .non, .int _ => true | .int _, .non => true | .non, .bl _ => true | .bl _, .non => true | .non, .str _ => true | .str _, .non => true
  | .int _, .int _ => true | .bl _, .bl _ => true | .str _, .str _ => true
  | .int _, .str _ => true | .str _, .int _ => true | .bl _, .str _ => true | .str _, .bl _ => true
  | _, _ => false
def peqD (h : MH) (a b : PV) : Option Bool := match toD (rd1 h) a, toD (rd1 h) b with
  | some d, some e => if SeqAt.shaped d && SeqAt.shaped e then some (PyData.eqv d e) else none
  | _, _ => none
def peq (h : MH) (a b : PV) : Option Bool := if scalP a b then some (eqF a b) else peqD h a b
/-! ### tables -/
section
variable {α : Type}
def kget (kvs : List (Key × α)) (k : Key) : Option α := (kvs.find? fun p => decide (p.1 = k)).map (·.2)
def kput (kvs : List (Key × α)) (k : Key) (v : α) : List (Key × α) :=
  if (kvs.any fun p => decide (p.1 = k)) = true then kvs.map (fun p => if p.1 = k then (p.1, v) else p) else kvs ++ [(k, v)]
def kdrop (kvs : List (Key × α)) (k : Key) : List (Key × α) := kvs.filter fun p => decide (p.1 ≠ k)
def kmerge (kvs more : List (Key × α)) : List (Key × α) := more.foldl (fun acc p => kput acc p.1 p.2) kvs
end
/-- a key as a value -/
def kP : Key → PV
  | .inl i => .int i
  | .inr x => .str x
def ditems (h : MH) : PV → Option (List (Key × PV))
  | .dic ks xs => some (ks.zip xs)
  | .ref n => match h[n]? with
    | some (.dic kvs) => some kvs
    | some (.fdic kvs) => some kvs
    | _ => none
  | _ => none
/-- pairs whose first parts are keys -/
def pairsOf : List PV → Option (List (Key × PV))
  | [] => some []
  | .tup [k, v] :: xs => match keyOf k, pairsOf xs with
    | some k, some ps => some ((k, v) :: ps)
    | _, _ => none
  | _ :: _ => none
def keysOf : List PV → Option (List Key)
  | [] => some []
  | x :: xs => match keyOf x, keysOf xs with
    | some k, some ks => some (k :: ks)
    | _, _ => none
def intsOf : List PV → Option (List Int)
  | [] => some []
  | .int i :: xs => (intsOf xs).map (i :: ·)
  | _ :: _ => none
def strsOf : List PV → Option (List Str)
  | [] => some []
  | .str i :: xs => (strsOf xs).map (i :: ·)
  | _ :: _ => none
/-- the items of a list or tuple -/
def items (h : MH) : PV → Option (List PV)
  | .tup xs => some xs
  | .lst xs => some xs
  | .ref n => match h[n]? with
    | some (.lst xs) => some xs
    | _ => none
  | _ => none
def truthy (h : MH) : PV → Option Bool
  | .non => some false
  | .bl b => some b
  | .int i => some (i != 0)
  | .str x => if x.length ≤ sizeLine then some (x.length != 0) else none
  | .tup xs => some (!xs.isEmpty)
  | .lst xs => some (!xs.isEmpty)
  | .ref n => match h[n]? with
    | some (.lst xs) => some (!xs.isEmpty)
    | _ => none
  | _ => none
def mkLst (r : Bool) (xs : List PV) (h : MH) : Res PV := if r then .ok (.ref h.length) (h ++ [.lst xs]) else .ok (.lst xs) h
def mkDic (kvs : List (Key × PV)) (h : MH) : Res PV := .ok (.ref h.length) (h ++ [.dic kvs])
/-- bits enough for a product -/
def fits (i j : Int) : Prop := i.natAbs.log2 + j.natAbs.log2 < 2000000
/-- a divisor that is not too long -/
def fitd (j : Int) : Prop := j.natAbs.log2 < 9000

/-- the items of a list -/
def litems (h : MH) : PV → Option (List PV)
  | .lst xs => some xs
  | .ref n => match h[n]? with
    | some (.lst xs) => some xs
    | _ => none
  | _ => none
def addop (r : Bool) : PV → PV → MH → Res PV
  | .int i, .int j, h => .ok (.int (i + j)) h
  | .str x, .str y, h => if x.length + y.length ≤ sizeLine then .ok (.str (x ++ y)) h else .stuck
  | .tup xs, .tup ys, h => if xs.length + ys.length ≤ sizeLine then .ok (.tup (xs ++ ys)) h else .stuck
  | a, b, h => match litems h a, litems h b with
    | some xs, some ys => if xs.length + ys.length ≤ sizeLine then mkLst r (xs ++ ys) h else .stuck
    | _, _ => .stuck
def subop : PV → PV → MH → Res PV
  | .int i, .int j, h => .ok (.int (i - j)) h
  | _, _, _ => .stuck
/-- text * number -/
def timesS (x : Str) (k : Int) : Str := if k < 1 then Str.empty else if (k == 1 || x.length == 0) = true then x else ⟨(List.replicate k.toNat x.cps).foldl (· ++ ·) #[]⟩
theorem rep_size (a : Array Nat) : ∀ (k : Nat) (acc : Array Nat), ((List.replicate k a).foldl (· ++ ·) acc).size = acc.size + k * a.size
  | 0, acc => by simp
  | k + 1, acc => by rw [List.replicate_succ, List.foldl_cons, rep_size a k, Array.size_append, Nat.succ_mul]; omega
theorem timesS_len (x : Str) (k : Int) : (timesS x k).length ≤ x.length * k.toNat := by
  unfold timesS
  by_cases c1 : k < 1
  · rw [if_pos c1]; exact Nat.zero_le _
  · rw [if_neg c1]
    by_cases c2 : (k == 1 || x.length == 0) = true
    · rw [if_pos c2]
      have : 1 ≤ k.toNat := by omega
      calc x.length = x.length * 1 := (Nat.mul_one _).symm
        _ ≤ x.length * k.toNat := Nat.mul_le_mul_left _ this
    · rw [if_neg c2]
      show ((List.replicate k.toNat x.cps).foldl (· ++ ·) #[]).size ≤ _
      rw [rep_size]
      show (#[] : Array Nat).size + k.toNat * x.cps.size ≤ x.cps.size * k.toNat
      rw [Nat.mul_comm]; simp
theorem timesS_le {x : Str} {k : Int} (h : x.length * k.toNat ≤ sizeLine) : (timesS x k).length ≤ sizeLine := Nat.le_trans (timesS_len x k) h
open Classical in
noncomputable def mulop (r : Bool) : PV → PV → MH → Res PV
  | .int i, .int j, h => if fits i j then .ok (.int (i * j)) h else .stuck
  | .str x, .int k, h => if -(2 ^ 63) ≤ k ∧ k < 2 ^ 63 ∧ x.length * k.toNat ≤ sizeLine then .ok (.str (timesS x k)) h else .stuck
  | a, .int k, h => match litems h a with
    | some xs => if -(2 ^ 63) ≤ k ∧ k < 2 ^ 63 ∧ xs.length * k.toNat ≤ sizeLine then mkLst r (List.replicate k.toNat xs).flatten h else .stuck
    | none => .stuck
  | _, _, _ => .stuck
open Classical in
noncomputable def divop : PV → PV → MH → Res PV
  | .int i, .int j, h => if j ≠ 0 ∧ fitd j then .ok (.int (i.fdiv j)) h else .stuck
  | _, _, _ => .stuck
def modop : PV → PV → MH → Res PV
  | .int i, .int j, h => if j ≠ 0 then .ok (.int (i.fmod j)) h else .stuck
  | _, _, _ => .stuck
def powop : PV → PV → MH → Res PV
  | .int i, .int j, h => if 0 ≤ j ∧ j ≤ 1000 ∧ i.natAbs < 2 ^ 200 then .ok (.int (i ^ j.toNat)) h else .stuck
  | _, _, _ => .stuck
noncomputable def binop (op : Bo) (r : Bool) (a b : PV) (h : MH) : Res PV := match op with
  | .add => addop r a b h
  | .sub => subop a b h
  | .mul => mulop r a b h
  | .fdiv => divop a b h
  | .mod => modop a b h
  | .pow => powop a b h
def inSeq (h : MH) (x : PV) (xs : List PV) : Option Bool := if flat x && xs.all flat then some (xs.any fun y => eqF y x) else none
def ltop : PV → PV → Option Bool
  | .int i, .int j => some (decide (i < j))
  | .str x, .str y => some (decide (x.cps.toList < y.cps.toList))
  | _, _ => none
def leop : PV → PV → Option Bool
  | .int i, .int j => some (decide (i ≤ j))
  | .str x, .str y => some (!decide (y.cps.toList < x.cps.toList))
  | _, _ => none
def isNon : PV → Bool
  | .non => true
  | _ => false
def inop (h : MH) : PV → PV → Option Bool
  | .str x, .str y => some (!(Builtin.Str.occurrences y x 0 y.length 1).isEmpty)
  | a, b => match items h b with
    | some xs => inSeq h a xs
    | none => match ditems h b, keyOf a with
      | some kvs, some k => some (kget kvs k).isSome
      | _, _ => none
def isBl : PV → PV → Option Bool
  | .bl a, .bl b => some (decide (a = b))
  | _, _ => none
/-- what never changes -/
def immu : PV → Bool
  | .int _ => true
  | .str _ => true
  | .tup _ => true
  | _ => false
def augop : Bo → PV → PV → MH → Res PV
  | .add, .int i, .int j, h => .ok (.int (i + j)) h
  | .sub, .int i, .int j, h => .ok (.int (i - j)) h
  | .add, .str x, .str y, h => if x.length + y.length ≤ sizeLine then .ok (.str (x ++ y)) h else .stuck
  | _, _, _, _ => .stuck
def cmpop (op : Co) (a b : PV) (h : MH) : Option Bool := match op with
  | .eq => peq h a b
  | .ne => (peq h a b).map (!·)
  | .lt => ltop a b
  | .le => leop a b
  | .gt => ltop b a
  | .ge => leop b a
  | .isN => if isNon b then some (isNon a) else none
  | .isntN => if isNon b then some (!isNon a) else none
  | .isB => isBl a b
  | .isntB => (isBl a b).map (!·)
  | .inn => inop h a b
  | .nin => (inop h a b).map (!·)
/-- what o[i] op= looks up -/
def augix (a k : PV) (h : MH) : Res PV := match a, k with
  | .ref n, .int j => match h[n]? with
    | some (.lst xs) => if 0 ≤ j then match xs[j.toNat]? with
        | some y => .ok y h
        | none => .stuck
      else .stuck
    | _ => .stuck
  | _, _ => .stuck
def ofB (o : Option Bool) (h : MH) : Res PV := match o with
  | some b => .ok (.bl b) h
  | none => .stuck
def ixop : PV → PV → MH → Res PV
  | .str x, .int k, h => if x.length ≤ sizeLine then match atI x.cps.toList k with
    | some c => .ok (.str ⟨#[c]⟩) h
    | none => .stuck
    else .stuck
  | a, i, h => match ditems h a, keyOf i with
    | some kvs, some k => match kget kvs k with
      | some y => .ok y h
      | none => .stuck
    | _, _ => match items h a, i with
      | some xs, .int k => match atI xs k with
        | some y => .ok y h
        | none => .stuck
      | _, _ => .stuck
/-- a slice -/
def cutP (xs : List PV) (lo hi : Option Int) : List PV := (xs.drop (HT.sIx xs.length 0 lo)).take (HT.sIx xs.length xs.length hi - HT.sIx xs.length 0 lo)
def slop (r : Bool) : PV → Option Int → Option Int → MH → Res PV
  | .tup xs, lo, hi, h => .ok (.tup (cutP xs lo hi)) h
  | .str x, lo, hi, h => if x.length ≤ sizeLine then .ok (.str (cutS x lo hi)) h else .stuck
  | a, lo, hi, h => match litems h a with
    | some xs => mkLst r (cutP xs lo hi) h
    | none => .stuck
/-- each st-th place, from i on -/
def evry (i st n : Nat) : List Nat := (List.range ((n - i + st - 1) / st)).map fun m => i + m * st
def everyP (i st : Nat) (xs : List PV) : List PV := (evry i st xs.length).filterMap (xs[·]?)
def slsop (r : Bool) (a : PV) (lo : Option Int) (st : Nat) (h : MH) : Res PV := if 0 ≤ lo.getD 0 ∧ 2 ≤ st ∧ st < 1000 then match a with
    | .tup xs => .ok (.tup (everyP (lo.getD 0).toNat st xs)) h
    | a => match litems h a with
      | some xs => mkLst r (everyP (lo.getD 0).toNat st xs) h
      | none => .stuck
  else .stuck
def revop (r : Bool) : PV → MH → Res PV
  | .tup xs, h => .ok (.tup xs.reverse) h
  | a, h => match litems h a with
    | some xs => mkLst r xs.reverse h
    | none => .stuck
def allB : List PV → Option (List Bool)
  | [] => some []
  | .bl b :: xs => (allB xs).map (b :: ·)
  | _ :: _ => none
def lenop : PV → MH → Res PV
  | .str x, h => if x.length ≤ sizeLine then .ok (.int x.length) h else .stuck
  | a, h => match items h a with
    | some xs => .ok (.int xs.length) h
    | none => match ditems h a with
      | some kvs => .ok (.int kvs.length) h
      | none => .stuck
def intop : PV → MH → Res PV
  | .int i, h => .ok (.int i) h
  | .bl b, h => .ok (.int (if b then 1 else 0)) h
  | _, _ => .stuck
def strop : PV → MH → Res PV
  | .int i, h => if i.natAbs.log2 < 1920 then .ok (.str (toString i)) h else .stuck
  | _, _ => .stuck
def tupop (a : PV) (h : MH) : Res PV := match items h a with
  | some xs => .ok (.tup xs) h
  | none => .stuck
def lstop (r : Bool) (a : PV) (h : MH) : Res PV := match items h a with
  | some xs => mkLst r xs h
  | none => .stuck
def boolsop (f : List Bool → Bool) (a : PV) (h : MH) : Res PV := match litems h a with
  | some xs => match allB xs with
    | some bs => .ok (.bl (f bs)) h
    | none => .stuck
  | none => .stuck
def int1 (f : Int → Int) : PV → MH → Res PV
  | .int i, h => .ok (.int (f i)) h
  | _, _ => .stuck
def int2 (f : Int → Int → Int) : PV → PV → MH → Res PV
  | .int i, .int j, h => .ok (.int (f i j)) h
  | _, _, _ => .stuck
/-- texts in order -/
def leS (x y : Str) : Bool := !decide (y.cps.toList < x.cps.toList)
/-- a tuple's first item, a text -/
def kS : PV → Str
  | .tup (.str z :: _) => z
  | _ => Str.empty
def kOk : PV → Bool
  | .tup (.str _ :: _) => true
  | _ => false
def sortop (r : Bool) (a : PV) (h : MH) : Res PV := match litems h a with
  | some xs => match intsOf xs with
    | some is => mkLst r ((is.mergeSort fun i j => decide (i ≤ j)).map PV.int) h
    | none => match strsOf xs with
      | some ss => if ss.length < 64 then mkLst r ((ss.mergeSort leS).map PV.str) h else .stuck
      | none => if xs.all kOk = true ∧ (xs.map kS).Nodup then mkLst r (xs.mergeSort fun x y => leS (kS x) (kS y)) h else .stuck
  | none => match ditems h a with
    | some kvs => match strsOf (kvs.map fun p => kP p.1) with
      | some ss => if ss.length < 64 then mkLst r ((ss.mergeSort leS).map PV.str) h else .stuck
      | none => .stuck
    | none => .stuck
def dictop (a : PV) (h : MH) : Res PV := match ditems h a with
  | some kvs => mkDic kvs h
  | none => match items h a with
    | some xs => match pairsOf xs with
      | some ps => mkDic (kmerge [] ps) h
      | none => .stuck
    | none => .stuck
def dzipop (a b : PV) (h : MH) : Res PV := match items h a, items h b with
  | some xs, some ys => match keysOf xs with
    | some ks => mkDic (kmerge [] (ks.zip ys)) h
    | none => .stuck
  | _, _ => .stuck
def sumop (a : PV) (h : MH) : Res PV := match litems h a with
  | some xs => match intsOf xs with
    | some is => .ok (.int is.sum) h
    | none => .stuck
  | none => .stuck
/-- the least, the greatest -/
def least : List Int → Option Int
  | [] => none
  | i :: is => some (is.foldl (fun a b => if b < a then b else a) i)
def most : List Int → Option Int
  | [] => none
  | i :: is => some (is.foldl (fun a b => if a < b then b else a) i)
def oneop (f : List Int → Option Int) (a : PV) (h : MH) : Res PV := match litems h a with
  | some xs => match intsOf xs with
    | some is => match f is with
      | some i => .ok (.int i) h
      | none => .stuck
    | none => .stuck
  | none => .stuck
/-- a list or tuple -/
def rowD : PyData → Bool
  | .list _ => true
  | .tuple _ => true
  | _ => false
def repop (a : PV) (h : MH) : Res PV := match toD (rd1 h) a with
  | some d => if rowD d = true ∧ d.hasDict = false ∧ d.showable = true ∧ d.depth ≤ 50 ∧ d.shown.length ≤ sizeLine then .ok (.str d.shown) h else .stuck
  | none => .stuck
def bltop (f : Bi) (r : Bool) (as : List PV) (h : MH) : Res PV := match f with
  | .len => match as with
    | [a] => lenop a h
    | _ => .stuck
  | .abs => match as with
    | [a] => int1 (fun i => if i < 0 then -i else i) a h
    | _ => .stuck
  | .min => match as with
    | [a, b] => int2 (fun i j => if j < i then j else i) a b h
    | _ => .stuck
  | .max => match as with
    | [a, b] => int2 (fun i j => if j > i then j else i) a b h
    | _ => .stuck
  | .int => match as with
    | [a] => intop a h
    | _ => .stuck
  | .tuple => match as with
    | [a] => tupop a h
    | _ => .stuck
  | .list => match as with
    | [a] => lstop r a h
    | _ => .stuck
  | .any => match as with
    | [a] => boolsop (fun bs => bs.any id) a h
    | _ => .stuck
  | .all => match as with
    | [a] => boolsop (fun bs => bs.all id) a h
    | _ => .stuck
  | .gcd => match as with
    | [a, b] => int2 (fun i j => ((Nat.gcd i.natAbs j.natAbs : Nat) : Int)) a b h
    | _ => .stuck
  | .sorted => match as with
    | [a] => sortop r a h
    | _ => .stuck
  | .dict => match as with
    | [a] => dictop a h
    | _ => .stuck
  | .sum => match as with
    | [a] => sumop a h
    | _ => .stuck
  | .min1 => match as with
    | [a] => oneop least a h
    | _ => .stuck
  | .max1 => match as with
    | [a] => oneop most a h
    | _ => .stuck
  | .repr => match as with
    | [a] => repop a h
    | _ => .stuck
  | .str => match as with
    | [a] => strop a h
    | _ => .stuck
/-- a value's type, if it is data -/
def tyOf (h : MH) : PV → Option String
  | .non => some "NoneType"
  | .bl _ => some "bool"
  | .int _ => some "int"
  | .str _ => some "str"
  | .tup _ => some "tuple"
  | .lst _ => some "list"
  | .dic _ _ => some "dict"
  | .ref n => match h[n]? with
    | some (.lst _) => some "list"
    | some (.dic _) => some "dict"
    | some (.fdic _) => some "dict"
    | _ => none
  | .exn _ _ => none
  | .fn _ => none
/-- a type is another one or below it -/
def subB (t1 t2 : String) : Bool := t1 == t2 || (t1 == "bool" && t2 == "int")
/-- the types that are asked for -/
def askT : List String := ["bool", "int", "str", "tuple", "list", "dict"]
/-- an exception's class is another one or below it -/
def subT (exc : List Str) (t1 t2 : Str) : Bool := t1 == t2 || t2 == ("WishError" : Str) || t2 == ("ValueError" : Str)
def isiop (a : PV) (ts : List String) (h : MH) : Option Bool := (tyOf h a).map fun t => ts.any (subB t)
def appop : PV → PV → MH → Res PV
  | .ref n, x, h => match h[n]? with
    | some (.lst xs) => if xs.length < sizeLine then .ok .non (h.set n (.lst (xs ++ [x]))) else .stuck
    | _ => .stuck
  | _, _, _ => .stuck
def extop : PV → PV → MH → Res PV
  | .ref n, a, h => match h[n]?, litems h a with
    | some (.lst xs), some ys => if xs.length + ys.length ≤ sizeLine then .ok .non (h.set n (.lst (xs ++ ys))) else .stuck
    | _, _ => .stuck
  | _, _, _ => .stuck
/-- what stands in the heap -/
def isLst (h : MH) : PV → Bool
  | .ref n => match h[n]? with
    | some (.lst _) => true
    | _ => false
  | _ => false
def isDic (h : MH) (o : PV) : Bool := (ditems h o).isSome
def isStr : PV → Bool
  | .str _ => true
  | _ => false
def isLsq (h : MH) (o : PV) : Bool := (litems h o).isSome
def popL (o : PV) (h : MH) : Res PV := match o with
  | .ref n => match h[n]? with
    | some (.lst xs) => match xs[xs.length - 1]? with
      | some y => .ok y (h.set n (.lst xs.dropLast))
      | none => .stuck
    | _ => .stuck
  | _ => .stuck
def popI (o i : PV) (h : MH) : Res PV := match o, i with
  | .ref n, .int i => match h[n]? with
    | some (.lst xs) => match seqIndex? i xs.length with
      | some k => match xs[k]? with
        | some y => if -(2 ^ 63) ≤ i ∧ i < 2 ^ 63 then .ok y (h.set n (.lst (xs.eraseIdx k))) else .stuck
        | none => .stuck
      | none => .stuck
    | _ => .stuck
  | _, _ => .stuck
def popD (o i d : PV) (h : MH) : Res PV := match o, keyOf i with
  | .ref n, some k => match h[n]? with
    | some (.dic kvs) => match kget kvs k with
      | some y => .ok y (h.set n (.dic (kdrop kvs k)))
      | none => .ok d h
    | _ => .stuck
  | _, _ => .stuck
def getD (o i d : PV) (h : MH) : Res PV := match ditems h o, keyOf i with
  | some kvs, some k => .ok ((kget kvs k).getD d) h
  | _, _ => .stuck
def insop (o i x : PV) (h : MH) : Res PV := match o, i with
  | .ref n, .int i => match h[n]? with
    | some (.lst xs) => if xs.length < sizeLine ∧ 0 ≤ i ∧ i < 2 ^ 63 then .ok .non (h.set n (.lst (xs.take i.toNat ++ [x] ++ xs.drop i.toNat))) else .stuck
    | _ => .stuck
  | _, _ => .stuck
def indop (o x : PV) (h : MH) : Res PV := match toD (rd1 h) o, toD (rd1 h) x with
  | some (.list ds), some d => if SeqAt.shaped (.list ds) && SeqAt.shaped d then match ds.findIdx? (fun z => PyData.eqv z d) with
      | some j => .ok (.int (j : Nat)) h
      | none => .stuck
    else .stuck
  | _, _ => .stuck
def isTp : PV → Bool
  | .tup _ => true
  | _ => false
/-- the first place of a text in a tuple of texts -/
def tixop (o x : PV) (h : MH) : Res PV := match o, x with
  | .tup xs, .str k => match strsOf xs with
    | some ss => if k ∈ ss then .ok (.int (ss.idxOf k : Nat)) h else .stuck
    | none => .stuck
  | _, _ => .stuck
def revI (o : PV) (h : MH) : Res PV := match o with
  | .ref n => match h[n]? with
    | some (.lst xs) => .ok .non (h.set n (.lst xs.reverse))
    | _ => .stuck
  | _ => .stuck
def clrop (o : PV) (h : MH) : Res PV := match o with
  | .ref n => match h[n]? with
    | some (.lst xs) => .ok .non (h.set n (.lst []))
    | _ => .stuck
  | _ => .stuck
def joinop (o a : PV) (h : MH) : Res PV := match o, items h a with
  | .str x, some xs => match strsOf xs with
    | some ys => if (ys.map (·.length)).sum + ys.length * x.length ≤ 16777216 then .ok (.str (Txt.join x ys)) h else .stuck
    | none => .stuck
  | _, _ => .stuck
def uppop (o : PV) (h : MH) : Res PV := match o with
  | .str x => if x.length ≤ 5592405 then .ok (.str (Txt.upper x)) h else .stuck
  | _ => .stuck
/-- what a method is asked of -/
def metok (m : Mt) (n : Nat) (o : PV) (h : MH) : Bool := match m with
  | .append | .extend | .insert | .reverse | .clear => isLst h o
  | .pop => if n = 2 then isDic h o else isLst h o
  | .index => isLsq h o
  | .tindex => isTp o
  | .get => isDic h o
  | .join | .upper => isStr o
def metop (m : Mt) (r : Bool) (o : PV) (as : List PV) (h : MH) : Res PV := match m with
  | .append => match as with
    | [a] => appop o a h
    | _ => .stuck
  | .extend => match as with
    | [a] => extop o a h
    | _ => .stuck
  | .pop => match as with
    | [] => popL o h
    | [a] => popI o a h
    | [a, d] => popD o a d h
    | _ => .stuck
  | .insert => match as with
    | [i, x] => insop o i x h
    | _ => .stuck
  | .index => match as with
    | [x] => indop o x h
    | _ => .stuck
  | .tindex => match as with
    | [x] => tixop o x h
    | _ => .stuck
  | .reverse => match as with
    | [] => revI o h
    | _ => .stuck
  | .clear => match as with
    | [] => clrop o h
    | _ => .stuck
  | .get => match as with
    | [i, d] => getD o i d h
    | _ => .stuck
  | .join => match as with
    | [a] => joinop o a h
    | _ => .stuck
  | .upper => match as with
    | [] => uppop o h
    | _ => .stuck

/-! ### slots -/
abbrev Env' := List (Option PV)
def wipeP (ρ : Env') : List Nat → Env'
  | [] => ρ
  | v :: vs => (wipeP ρ vs).set v none
mutual
def bindG : Ag → PV → Env' → MH → Option Env'
  | .nm i, x, ρ, _ => if i < ρ.length then some (ρ.set i (some x)) else none
  | .tp gs, x, ρ, h => match items h x with
    | some xs => bindGs gs xs ρ h
    | none => none
def bindGs : Ags → List PV → Env' → MH → Option Env'
  | .nil, [], ρ, _ => some ρ
  | .cons g gs, x :: xs, ρ, h => match bindG g x ρ h with
    | some ρ' => bindGs gs xs ρ' h
    | none => none
  | _, _, _, _ => none
end
/-- what a loop goes through: the changing lists that must stay as they are, the items -/
abbrev Src := List (Nat × List PV) × List PV
def chk (l : List (Nat × List PV)) (h : MH) : Prop := ∀ p ∈ l, h[p.1]? = some (.lst p.2)
open Classical in
noncomputable def compL (body : PV → MH → Res (Option PV)) (l : List (Nat × List PV)) : List PV → List PV → MH → Res (List PV)
  | [], acc, h => if chk l h then .ok acc h else .stuck
  | x :: xs, acc, h => if chk l h then (body x h).bind fun o h => compL body l xs (match o with | none => acc | some y => acc ++ [y]) h else .stuck


open Classical in
noncomputable def compA (body : PV → List PV → MH → Res (List PV)) (l : List (Nat × List PV)) : List PV → List PV → MH → Res (List PV)
  | [], acc, h => if chk l h then .ok acc h else .stuck
  | x :: xs, acc, h => if chk l h then (body x acc h).bind fun acc h => compA body l xs acc h else .stuck

open Classical in
noncomputable def compD (body : PV → MH → Res (Option (Key × PV))) (l : List (Nat × List PV)) : List PV → List (Key × PV) → MH → Res (List (Key × PV))
  | [], acc, h => if chk l h then .ok acc h else .stuck
  | x :: xs, acc, h => if chk l h ∧ acc.length < sizeLine then (body x h).bind fun o h => compD body l xs (match o with | none => acc | some p => kput acc p.1 p.2) h else .stuck

/-! ### expressions -/
/-- what a call of a def hands on -/
abbrev Calls := Str → List PV → List Str → List PV → MH → Res PV
section
variable (P : Pg) (cl : Calls)
def src (a : PV) (h : MH) : Option Src := match a with
  | .tup xs => some ([], xs)
  | .lst xs => some ([], xs)
  | .str x => some ([], x.cps.toList.map fun c => PV.str ⟨#[c]⟩)
  | .ref n => match h[n]? with
    | some (.lst xs) => some ([(n, xs)], xs)
    | _ => none
  | _ => none
mutual
noncomputable def ev : Ae → Env' → MH → Res PV
  | .v i, ρ, h => match ρ[i]? with
    | some (some x) => .ok x h
    | _ => .stuck
  | .non, _, h => .ok .non h
  | .bl b, _, h => .ok (.bl b) h
  | .int i, _, h => .ok (.int i) h
  | .str x, _, h => .ok (.str x) h
  | .con x, _, h => match P.con x with
    | some v => .ok v h
    | none => .stuck
  | .tup es, ρ, h => (evs es ρ h).bind fun xs h => .ok (.tup xs) h
  | .lst r es, ρ, h => (evs es ρ h).bind fun xs h => mkLst r xs h
  | .bin op r a b, ρ, h => (ev a ρ h).bind fun x h => (ev b ρ h).bind fun y h => binop op r x y h
  | .neg a, ρ, h => (ev a ρ h).bind fun x h => match x with
    | .int i => .ok (.int (-i)) h
    | _ => .stuck
  | .not a, ρ, h => (ev a ρ h).bind fun x h => ofB ((truthy h x).map (!·)) h
  | .cmp op a b, ρ, h => (ev a ρ h).bind fun x h => (ev b ρ h).bind fun y h => ofB (cmpop op x y h) h
  | .chain op op' a b c, ρ, h => (ev a ρ h).bind fun x h => (ev b ρ h).bind fun y h => match cmpop op x y h with
    | some true => (ev c ρ h).bind fun z h => ofB (cmpop op' y z h) h
    | some false => .ok (.bl false) h
    | none => .stuck
  | .and es, ρ, h => evAnd es ρ h
  | .or es, ρ, h => evOr es ρ h
  | .ifx c a b, ρ, h => (ev c ρ h).bind fun x h => match truthy h x with
    | some true => ev a ρ h
    | some false => ev b ρ h
    | none => .stuck
  | .ix a i, ρ, h => (ev a ρ h).bind fun x h => (ev i ρ h).bind fun y h => ixop x y h
  | .sl r a lo hi, ρ, h => (ev a ρ h).bind fun x h => (evo lo ρ h).bind fun l h => (evo hi ρ h).bind fun u h => slop r x l u h
  | .call f es ks kes, ρ, h => (evs es ρ h).bind fun xs h => (evs kes ρ h).bind fun ys h => cl f xs ks ys h
  | .blt f r es, ρ, h => (evs es ρ h).bind fun xs h => bltop f r xs h
  | .isi a ts, ρ, h => (ev a ρ h).bind fun x h => ofB (isiop x ts h) h
  | .met m r o es, ρ, h => (ev o ρ h).bind fun x h => if metok m es.len x h = true then (evs es ρ h).bind fun xs h => metop m r x xs h else .stuck
  | .tupS es, ρ, h => (evs es ρ h).bind fun xs h => if xs.length ≤ sizeLine then .ok (.tup xs) h else .stuck
  | .lstS r es, ρ, h => (evs es ρ h).bind fun xs h => if xs.length ≤ sizeLine then mkLst r xs h else .stuck
  | .rev r a, ρ, h => (ev a ρ h).bind fun x h => revop r x h
  | .dnew ps, ρ, h => (evD ps ρ h).bind fun ps h => mkDic (kmerge [] ps) h
  | .dzip a b, ρ, h => (ev a ρ h).bind fun x h => (ev b ρ h).bind fun y h => dzipop x y h
  | .fnv f, _, h => if (P.fns f).isSome = true then .ok (.fn f) h else .stuck
  | .calv i es, ρ, h => match ρ[i]? with
    | some (some (.fn f)) => if (P.fns f).isSome = true then (evs es ρ h).bind fun xs h => cl f xs [] [] h else .stuck
    | _ => .stuck
  | .comp r elt g it ifs own, ρ, h => (evi it ρ h).bind fun s h => (compL (fun x h => Res.nox (match bindG g x (wipeP ρ (own.map (·.2))) h with
      | some ρ' => (evIfs ifs ρ' h).bind fun b h => if b = true then (ev elt ρ' h).bind fun y h => .ok (some y) h else .ok none h
      | none => .stuck)) s.1 s.2 [] h).bind fun xs h => if xs.length ≤ sizeLine then mkLst r xs h else .stuck
  | .comp2 r elt g it g2 it2 own vs2, ρ, h => (evi it ρ h).bind fun s h => (compA (fun x acc h => Res.nox (match bindG g x (wipeP ρ (own.map (·.2))) h with
      | some ρ' => (evi it2 ρ' h).bind fun s2 h => compL (fun x h => match bindG g2 x (wipeP ρ' vs2) h with
          | some ρ2 => (ev elt ρ2 h).bind fun y h => .ok (some y) h
          | none => .stuck) s2.1 s2.2 acc h
      | none => .stuck)) s.1 s.2 [] h).bind fun xs h => if xs.length ≤ sizeLine then mkLst r xs h else .stuck
  | .dcomp k v g it ifs own, ρ, h => (evi it ρ h).bind fun s h => (compD (fun x h => Res.nox (match bindG g x (wipeP ρ (own.map (·.2))) h with
      | some ρ' => (evIfs ifs ρ' h).bind fun b h => if b = true then (ev k ρ' h).bind fun y h => (ev v ρ' h).bind fun z h => match keyOf y with
          | some j => .ok (some (j, z)) h
          | none => .stuck
        else .ok none h
      | none => .stuck)) s.1 s.2 [] h).bind fun ps h => mkDic ps h
  | .sls r a lo st, ρ, h => (ev a ρ h).bind fun x h => (evo lo ρ h).bind fun l h => slsop r x l st h
  | .val i, ρ, h => match ρ[i]? with
    | some (some (.exn c v)) => if P.exc.contains c = true then .ok v h else .stuck
    | _ => .stuck
noncomputable def evs : Aes → Env' → MH → Res (List PV)
  | .nil, _, h => .ok [] h
  | .cons e es, ρ, h => (ev e ρ h).bind fun x h => (evs es ρ h).bind fun xs h => .ok (x :: xs) h
  | .star e es, ρ, h => (ev e ρ h).bind fun x h => match items h x with
    | some ys => (evs es ρ h).bind fun xs h => .ok (ys ++ xs) h
    | none => .stuck
/-- a display of a dict -/
noncomputable def evD : Aps → Env' → MH → Res (List (Key × PV))
  | .nil, _, h => .ok [] h
  | .cons k v ps, ρ, h => (ev k ρ h).bind fun x h => (ev v ρ h).bind fun y h => match keyOf x with
    | some j => (evD ps ρ h).bind fun qs h => .ok ((j, y) :: qs) h
    | none => .stuck
noncomputable def evAnd : Aes → Env' → MH → Res PV
  | .nil, _, _ => .stuck
  | .star _ _, _, _ => .stuck
  | .cons e .nil, ρ, h => ev e ρ h
  | .cons e es, ρ, h => (ev e ρ h).bind fun x h => match truthy h x with
    | some true => evAnd es ρ h
    | some false => .ok x h
    | none => .stuck
noncomputable def evOr : Aes → Env' → MH → Res PV
  | .nil, _, _ => .stuck
  | .star _ _, _, _ => .stuck
  | .cons e .nil, ρ, h => ev e ρ h
  | .cons e es, ρ, h => (ev e ρ h).bind fun x h => match truthy h x with
    | some true => .ok x h
    | some false => evOr es ρ h
    | none => .stuck
noncomputable def evIfs : Ao → Env' → MH → Res Bool
  | .none, _, h => .ok true h
  | .some e, ρ, h => (ev e ρ h).bind fun x h => match truthy h x with
    | some b => .ok b h
    | none => .stuck
noncomputable def evo : Ao → Env' → MH → Res (Option Int)
  | .none, _, h => .ok none h
  | .some e, ρ, h => (ev e ρ h).bind fun x h => match x with
    | .int i => .ok (some i) h
    | _ => .stuck
noncomputable def evi : Ai → Env' → MH → Res Src
  | .ex e, ρ, h => (ev e ρ h).bind fun x h => match src x h with
    | some s => .ok s h
    | none => .stuck
  | .range1 e, ρ, h => (ev e ρ h).bind fun x h => match x with
    | .int j => if -(2 ^ 62) ≤ j ∧ j < 2 ^ 62 then .ok ([], (List.range j.toNat).map fun (k : Nat) => PV.int (k : Int)) h else .stuck
    | _ => .stuck
  | .range2 a b, ρ, h => (ev a ρ h).bind fun x h => (ev b ρ h).bind fun y h => match x, y with
    | .int i, .int j => if -(2 ^ 62) ≤ i ∧ i < 2 ^ 62 ∧ -(2 ^ 62) ≤ j ∧ j < 2 ^ 62 then .ok ([], (List.range (j - i).toNat).map fun (k : Nat) => PV.int (i + (k : Int))) h else .stuck
    | _, _ => .stuck
  | .range3 a b c, ρ, h => (ev a ρ h).bind fun x h => (ev b ρ h).bind fun y h => (ev c ρ h).bind fun z h => match x, y, z with
    | .int i, .int j, .int k => if k ≠ 0 ∧ k.natAbs < 1073741824 ∧ Builtin.Range.small i j k = true then .ok ([], (List.range (Builtin.Range.rangeSize i j k).toNat).map fun (t : Nat) => PV.int (i + (t : Int) * k)) h else .stuck
    | _, _, _ => .stuck
  | .zip2 a b, ρ, h => (ev a ρ h).bind fun x h => (ev b ρ h).bind fun y h => match src x h, src y h with
    | some s, some t => if isStr x = false ∧ isStr y = false then .ok (s.1 ++ t.1, (s.2.zip t.2).map fun p => .tup [p.1, p.2]) h else .stuck
    | _, _ => .stuck
  | .zip3 a b c, ρ, h => (ev a ρ h).bind fun x h => (ev b ρ h).bind fun y h => (ev c ρ h).bind fun z h => match src x h, src y h, src z h with
    | some s, some t, some u => .ok (s.1 ++ t.1 ++ u.1, (s.2.zip (t.2.zip u.2)).map fun p => .tup [p.1, p.2.1, p.2.2]) h
    | _, _, _ => .stuck
  | .enum a, ρ, h => (ev a ρ h).bind fun x h => match src x h with
    | some s => if isStr x = false then .ok (s.1, s.2.zipIdx.map fun p => .tup [.int p.2, p.1]) h else .stuck
    | none => .stuck
  | .rev a, ρ, h => (ev a ρ h).bind fun x h => match src x h with
    | some s => .ok (s.1, s.2.reverse) h
    | none => .stuck
end
end

/-! ### statements -/
inductive Out where
  | nx (ρ : Env') (h : MH) | rt (v : PV) (h : MH) | bk (ρ : Env') (h : MH) | ct (ρ : Env') (h : MH)
  | exn (c : Str) (v : PV) (ρ : Env') (h : MH) | stuck
/-- an expression's outcome goes on -/
def Res.out {α : Type} (r : Res α) (ρ : Env') (f : α → MH → Out) : Out := match r with
  | .ok a h => f a h
  | .exn c v h => .exn c v ρ h
  | .stuck => .stuck
def Out.seq (o : Out) (f : Env' → MH → Out) : Out := match o with
  | .nx ρ h => f ρ h
  | o => o
/-- no exception may leave -/
def Out.nox (o : Out) : Out := match o with
  | .exn _ _ _ _ => .stuck
  | o => o
/-- behind an except suite with a name -/
def Out.gone (o : Out) (i : Nat) : Out := match o with
  | .nx ρ h => .nx (ρ.set i none) h
  | .bk ρ h => .bk (ρ.set i none) h
  | .ct ρ h => .ct (ρ.set i none) h
  | .rt v h => .rt v h
  | _ => .stuck
/-- a loop's turn is over -/
def Out.turn (o : Out) (f : Env' → MH → Out) : Out := match o with
  | .nx ρ h => f ρ h
  | .ct ρ h => f ρ h
  | .bk ρ h => .nx ρ h
  | o => o
open Classical in
noncomputable def forL (body : PV → Env' → MH → Out) (l : List (Nat × List PV)) : List PV → Env' → MH → Out
  | [], ρ, h => if chk l h then .nx ρ h else .stuck
  | x :: xs, ρ, h => if chk l h then (body x ρ h).turn (forL body l xs) else .stuck
def whlN (c : Env' → MH → Res Bool) (b : Env' → MH → Out) : Nat → Env' → MH → Out
  | 0, _, _ => .stuck
  | n + 1, ρ, h => (c ρ h).out ρ fun t h => if t = true then (b ρ h).turn (whlN c b n) else .nx ρ h
open Classical in
noncomputable def whlE (c : Env' → MH → Res Bool) (b : Env' → MH → Out) (ρ : Env') (h : MH) : Out :=
  if e : ∃ n, whlN c b n ρ h ≠ .stuck then whlN c b (Classical.choose e) ρ h else .stuck
/-- o[i] = v -/
def putop (o i v : PV) (h : MH) : Option MH := match o, i with
  | .ref n, .int k => match h[n]? with
    | some (.lst xs) => match ixN xs.length k with
      | some j => some (h.set n (.lst (xs.set j v)))
      | none => none
    | some (.dic kvs) => if kvs.length < sizeLine then some (h.set n (.dic (kput kvs (.inl k) v))) else none
    | _ => none
  | .ref n, .str k => match h[n]? with
    | some (.dic kvs) => if kvs.length < sizeLine then some (h.set n (.dic (kput kvs (.inr k) v))) else none
    | _ => none
  | _, _ => none
section
variable (P : Pg) (cl : Calls)
noncomputable def tst (e : Ae) (ρ : Env') (h : MH) : Res Bool := (ev P cl e ρ h).bind fun x h => match truthy h x with
  | some b => .ok b h
  | none => .stuck
mutual
noncomputable def run1 : As → Env' → MH → Out
  | .ex e, ρ, h => (ev P cl e ρ h).out ρ fun _ h => .nx ρ h
  | .set g e, ρ, h => (ev P cl e ρ h).out ρ fun x h => match bindG g x ρ h with
    | some ρ' => .nx ρ' h
    | none => .stuck
  | .put o i e, ρ, h => (ev P cl e ρ h).out ρ fun x h => (ev P cl o ρ h).out ρ fun a h => (ev P cl i ρ h).out ρ fun k h => match putop a k x h with
    | some h => .nx ρ h
    | none => .stuck
  | .aug i op e, ρ, h => match ρ[i]? with
    | some (some x) => (ev P cl e ρ h).out ρ fun y h => (augop op x y h).out ρ fun z h => .nx (ρ.set i (some z)) h
    | _ => .stuck
  | .augs o i op e, ρ, h => (ev P cl o ρ h).out ρ fun a h => (ev P cl i ρ h).out ρ fun k h => (augix a k h).out ρ fun x h => (ev P cl e ρ h).out ρ fun y h => (augop op x y h).out ρ fun z h => match putop a k z h with
    | some h => .nx ρ h
    | none => .stuck
  | .ite c a b, ρ, h => (tst P cl c ρ h).out ρ fun t h => if t = true then runs a ρ h else runs b ρ h
  | .whl c b, ρ, h => whlE (tst P cl c) (runs b) ρ h
  | .for g it b, ρ, h => (evi P cl it ρ h).out ρ fun s h => forL (fun x ρ h => match bindG g x ρ h with
    | some ρ' => runs b ρ' h
    | none => .stuck) s.1 s.2 ρ h
  | .ret e, ρ, h => (ev P cl e ρ h).out ρ fun x h => .rt x h
  | .retN, _, h => .rt .non h
  | .rais c e _, ρ, h => (ev P cl e ρ h).out ρ fun x h => .exn c x ρ h
  | .try b hs, ρ, h => match runs b ρ h with
    | .exn c v ρ h => if P.exc.contains c = true then runH hs c v ρ h else .stuck
    | o => o
  | .brk, ρ, h => .bk ρ h
  | .cnt, ρ, h => .ct ρ h
  | .pas, ρ, h => .nx ρ h
noncomputable def runs : Ass → Env' → MH → Out
  | .nil, ρ, h => .nx ρ h
  | .cons s ss, ρ, h => (run1 s ρ h).seq (runs ss)
noncomputable def runH : Ahs → Str → PV → Env' → MH → Out
  | .nil, c, v, ρ, h => .exn c v ρ h
  | .cons t n b hs, c, v, ρ, h => if subT P.exc c t = true then match n with
      | none => (runs b ρ h).nox
      | some i => if i < ρ.length then (runs b (ρ.set i (some (.exn c v))) h).gone i else .stuck
    else runH hs c v ρ h
end
end
/-- the parameters' values, in their order, from those by place and those by name -/
def looks {α : Type} (kv : List (Str × α)) : List Str → Option (List α)
  | [] => some []
  | p :: ps => match kv.lookup p, looks kv ps with
    | some a, some as => some (a :: as)
    | _, _ => none
def argsOf {α : Type} (ps : List Str) (xs : List α) (ks : List Str) (ys : List α) : Option (List α) :=
  if xs.length + ks.length = ps.length ∧ ks.length = ys.length ∧ ks.Nodup ∧ ∀ k ∈ ks, k ∈ ps.drop xs.length then
    (looks (ks.zip ys) (ps.drop xs.length)).map fun zs => xs ++ zs
  else none
/-- what a def's body hands on to its caller; kp: a list that it tells goes on changing -/
noncomputable def Out.res (kp : Bool) (h : MH) : Out → Res PV
  | .nx _ h' => if kp = true then .ok .non h' else .ok (leave h .non h').1 (leave h .non h').2
  | .rt v h' => if kp = true then .ok v h' else .ok (leave h v h').1 (leave h v h').2
  | .exn c v _ h' => if kp = true then .exn c v h' else .exn c (leave h v h').1 (leave h v h').2
  | _ => .stuck
/-- a def's body at bound arguments -/
noncomputable def body (P : Pg) (cl : Calls) (d : Fn) (as : List PV) (h : MH) : Res PV :=
  (runs P cl d.body (as.map some ++ List.replicate (d.ns - as.length) none) h).res d.kp h
/-- a call, n deep -/
noncomputable def call (P : Pg) : Nat → Calls
  | 0, _, _, _, _, _ => .stuck
  | n + 1, f, xs, ks, ys, h => match P.fns f with
    | none => .stuck
    | some d => match argsOf d.ps xs ks ys with
      | none => .stuck
      | some as => body P (call P n) d as h
end Mx

end

section
set_option Elab.async false
set_option Elab.async false
set_option linter.all false
set_option maxRecDepth 100000
set_option maxHeartbeats 2000000
/-! Which text stands for which term: a look that the kernel does. -/
namespace Mx
open PySem PySem.Spec PyProof.Rows L2

def visB (sc : Scope) (x : Str) : Bool := match sc.names.lookup x with
  | some .local => true
  | some .cell => true
  | some .free => true
  | _ => false
def locB (sc : Scope) (x : Str) : Bool := match sc.names.lookup x with
  | some .local => true
  | some .cell => true
  | _ => false
def onlyLocB (sc : Scope) (x : Str) : Bool := match sc.names.lookup x with
  | some .local => true
  | _ => false
def gloB (sc : Scope) (x : Str) : Bool := match sc.names.lookup x with
  | some .globalImplicit => !(x == ("__debug__" : Str))
  | _ => false
def boM : Bo → Operator → Bool
  | .add, .Add => true
  | .sub, .Sub => true
  | .mul, .Mult => true
  | .fdiv, .FloorDiv => true
  | .mod, .Mod => true
  | .pow, .Pow => true
  | _, _ => false
def coM : Co → CmpOp → Bool
  | .eq, .Eq => true
  | .ne, .NotEq => true
  | .lt, .Lt => true
  | .le, .LtE => true
  | .gt, .Gt => true
  | .ge, .GtE => true
  | .isN, .Is => true
  | .isntN, .IsNot => true
  | .isB, .Is => true
  | .isntB, .IsNot => true
  | .inn, .In => true
  | .nin, .NotIn => true
  | _, _ => false
def biN : Bi → Str
  | .len => "len"
  | .abs => "abs"
  | .min => "min"
  | .max => "max"
  | .int => "int"
  | .tuple => "tuple"
  | .list => "list"
  | .any => "any"
  | .all => "all"
  | .gcd => "gcd"
  | .sorted => "sorted"
  | .dict => "dict"
  | .sum => "sum"
  | .min1 => "min"
  | .max1 => "max"
  | .repr => "repr"
  | .str => "str"
def mtN : Mt → Str
  | .append => "append"
  | .extend => "extend"
  | .pop => "pop"
  | .insert => "insert"
  | .index => "index"
  | .tindex => "index"
  | .reverse => "reverse"
  | .clear => "clear"
  | .get => "get"
  | .join => "join"
  | .upper => "upper"
/-- how many arguments a method takes -/
def mtA : Mt → Nat → Bool
  | .append, 1 => true
  | .extend, 1 => true
  | .pop, 0 => true
  | .pop, 1 => true
  | .pop, 2 => true
  | .insert, 2 => true
  | .index, 1 => true
  | .tindex, 1 => true
  | .reverse, 0 => true
  | .clear, 0 => true
  | .get, 2 => true
  | .join, 1 => true
  | .upper, 0 => true
  | _, _ => false
def noSpecial (x : Str) : Bool := !(x == ("__debug__" : Str)) && !(x == ("__classdict__" : Str))
/-- how many arguments a built-in is looked at with -/
def biA : Bi → Nat
  | .min => 2
  | .max => 2
  | .gcd => 2
  | _ => 1
/-- what may be called anywhere -/
def biC : Bi → Bool
  | .min => false
  | .max => false
  | .any => false
  | .all => false
  | .sorted => false
  | .dict => false
  | .sum => false
  | .min1 => false
  | .max1 => false
  | _ => true
def isSlice : Expr → Bool
  | .Slice _ _ _ _ => true
  | _ => false
/-- no call without arguments of a name -/
def plainO : Expr → Bool
  | .Call (.Name _ _) [] [] _ => false
  | _ => true
/-- what is looked at besides: names that the module leaves to the built-ins; the names of defs with how they are called -/
structure Lk where
  fr : List Str
  gcd : Bool
  cons : List Str
  exc : List Str
  fns : List Str
  hot : Bool
def isTupE : Expr → Bool
  | .Tuple _ _ _ => true
  | _ => false
section
variable (L : Lk) (N : List Str)
def freeB (sc : Scope) (x : Str) : Bool := gloB sc x && L.fr.contains x
/-- the scope of a block within -/
abbrev inS (scope sc : Scope) : Scope := relS scope sc
def tyE (sc : Scope) (t : String) : Expr → Bool
  | .Name x _ => x == (t : Str) && freeB L sc x && askT.contains t
  | _ => false
def tyEs (sc : Scope) : List String → List Expr → Bool
  | [], [] => true
  | t :: ts, e :: es => tyE L sc t e && tyEs sc ts es
  | _, _ => false
def Ag.slots : Ag → List Nat
  | .nm i => [i]
  | .tp gs => gsl gs
where gsl : Ags → List Nat
  | .nil => []
  | .cons g gs => g.slots ++ gsl gs
mutual
def mE (sc : Scope) : Ae → Expr → Bool
  | .v i, .Name x _ => decide (N[i]? = some x) && visB sc x && noSpecial x
  | .non, .Constant .none _ _ => true
  | .bl b, .Constant (.bool c) _ _ => b == c
  | .int i, .Constant (.int j) _ _ => decide (i = j)
  | .str x, .Constant (.str y) _ _ => decide (x = y)
  | .con x, .Name y _ => decide (x = y) && gloB sc y && L.cons.contains y
  | .tup es, .Tuple xs _ _ => mEs sc es xs && decide (es.len ≤ 1000)
  | .lst _ es, .List xs _ => mEs sc es xs && decide (es.len ≤ 1000)
  | .bin op _ a b, .BinOp x o y _ => boM op o && mE sc a x && mE sc b y
  | .neg a, .UnaryOp .USub x _ => mE sc a x
  | .not a, .UnaryOp .Not x _ => mE sc a x
  | .cmp op a b, .Compare x [o] [y] _ => coM op o && mE sc a x && mE sc b y
  | .chain op op' a b c, .Compare x [o, o'] [y, z] _ => coM op o && coM op' o' && mE sc a x && mE sc b y && mE sc c z
  | .and es, .BoolOp .And xs _ => mEs sc es xs
  | .or es, .BoolOp .Or xs _ => mEs sc es xs
  | .ifx c a b, .IfExp x y z _ => mE sc c x && mE sc a y && mE sc b z
  | .ix a i, .Subscript x y _ => mE sc a x && mE sc i y
  | .sl _ a lo hi, .Subscript x (.Slice l h none _) _ => mE sc a x && mO sc lo l && mO sc hi h
  | .call f es ks kes, .Call (.Name g _) xs kws _ => decide (f = g) && gloB sc g && L.fns.contains g && !L.hot && mEs sc es xs && mKs sc ks kes kws
  | .blt f _ es, .Call (.Name g _) xs [] _ => decide (biN f = g) && gloB sc g && (if f = .gcd then L.gcd else L.fr.contains g) && (biC f || !L.hot) && mEs sc es xs && decide (es.len = biA f)
  | .isi a ts, .Call (.Name g _) [x, t] [] _ => decide (g = ("isinstance" : Str)) && freeB L sc g && mE sc a x && (match ts, t with
      | [t1], .Name _ _ => tyE L sc t1 t
      | ts, .Tuple us _ _ => tyEs L sc ts us && decide (ts.length ≤ 1000) && decide (1 ≤ ts.length)
      | _, _ => false)
  | .met m _ o es, .Call (.Attribute x g ap) ys [] cp => decide (mtN m = g) && plainO x && mE sc o x && mEs sc es ys && decide (ap.endLine = cp.line) && mtA m es.len
  | .tupS es, .Tuple xs _ _ => mSt sc es xs
  | .lstS _ es, .List xs _ => mSt sc es xs
  | .rev _ a, .Subscript x (.Slice none none (some (.UnaryOp .USub (.Constant (.int 1) _ _) _)) _) _ => mE sc a x
  | .dnew ps, .Dict kx vx _ => mKD sc ps kx vx && decide (ps.len ≤ 15)
  | .dzip a b, .Call (.Name g _) [.Call (.Name z _) [x, y] [] _] [] _ => !L.hot && decide (g = ("dict" : Str)) && freeB L sc g && decide (z = ("zip" : Str)) && freeB L sc z && mE sc a x && mE sc b y
  | .fnv f, .Name x _ => decide (f = x) && gloB sc x && L.fns.contains x && !L.hot
  | .calv i es, .Call (.Name x _) ys [] _ => decide (N[i]? = some x) && visB sc x && noSpecial x && !L.hot && mEs sc es ys
  | .comp _ elt g it ifs own, .ListComp e [⟨tg, iter, fs, 0⟩] scope _ => !L.hot && blkC N sc scope own && decide (∀ i ∈ g.slots, i ∈ own.map (·.2)) && mI sc tg it iter && mG (fun x => scope.names.lookup x == some .cell) (inS scope sc) g tg && mIfs (inS scope sc) ifs fs && mE (inS scope sc) elt e
  | .comp2 _ elt g it g2 it2 own vs2, .ListComp e [⟨tg, iter, [], 0⟩, ⟨tg2, iter2, [], 0⟩] scope _ => !L.hot && blkC N sc scope own && decide (∀ i ∈ g.slots, i ∈ own.map (·.2)) && decide (∀ i ∈ g2.slots, i ∈ vs2) && decide (∀ i ∈ vs2, i ∈ own.map (·.2)) && decide (∀ i ∈ vs2, i ∉ g.slots) && mI sc tg it iter && mG (fun x => scope.names.lookup x == some .cell) (inS scope sc) g tg && mI (inS scope sc) tg2 it2 iter2 && mG (fun x => scope.names.lookup x == some .cell) (inS scope sc) g2 tg2 && mE (inS scope sc) elt e
  | .dcomp k v g it ifs own, .DictComp ke ve [⟨tg, iter, fs, 0⟩] scope _ => !L.hot && blkC N sc scope own && decide (∀ i ∈ g.slots, i ∈ own.map (·.2)) && mI sc tg it iter && mG (fun x => scope.names.lookup x == some .cell) (inS scope sc) g tg && mIfs (inS scope sc) ifs fs && mE (inS scope sc) k ke && mE (inS scope sc) v ve
  | .sls _ a lo st, .Subscript x (.Slice l none (some (.Constant (.int c) _ _)) _) _ => mE sc a x && mO sc lo l && decide (c = (st : Int))
  | .val i, .Attribute (.Name x _) a _ => decide (N[i]? = some x) && onlyLocB sc x && noSpecial x && decide (a = ("value" : Str))
  | _, _ => false
def mEs (sc : Scope) : Aes → List Expr → Bool
  | .nil, [] => true
  | .cons e es, x :: xs => mE sc e x && mEs sc es xs
  | _, _ => false
def mSt (sc : Scope) : Aes → List Expr → Bool
  | .nil, [] => true
  | .cons e es, x :: xs => mE sc e x && mSt sc es xs
  | .star e es, .Starred x _ :: xs => mE sc e x && mSt sc es xs
  | _, _ => false
def mKD (sc : Scope) : Aps → List (Option Expr) → List Expr → Bool
  | .nil, [], [] => true
  | .cons k v ps, some x :: xs, y :: ys => mE sc k x && mE sc v y && mKD sc ps xs ys
  | _, _, _ => false
def mO (sc : Scope) : Ao → Option Expr → Bool
  | .none, none => true
  | .some e, some x => mE sc e x
  | _, _ => false
def mIfs (sc : Scope) : Ao → List Expr → Bool
  | .none, [] => true
  | .some e, [x] => mE sc e x
  | _, _ => false
def mKs (sc : Scope) : List Str → Aes → List Keyword → Bool
  | [], .nil, [] => true
  | k :: ks, .cons e es, ⟨some n, x, _⟩ :: xs => decide (k = n) && mE sc e x && mKs sc ks es xs
  | _, _, _ => false
def mI (sc : Scope) (tg : Expr) : Ai → Expr → Bool
  | .ex e, x => mE sc e x
  | .range1 e, .Call (.Name g _) [x] [] _ => decide (g = ("range" : Str)) && freeB L sc g && mE sc e x
  | .range2 a b, .Call (.Name g _) [x, y] [] _ => decide (g = ("range" : Str)) && freeB L sc g && mE sc a x && mE sc b y
  | .range3 a b c, .Call (.Name g _) [x, y, z] [] _ => decide (g = ("range" : Str)) && freeB L sc g && mE sc a x && mE sc b y && mE sc c z
  | .zip2 a b, .Call (.Name g _) [x, y] [] _ => isTupE tg && decide (g = ("zip" : Str)) && freeB L sc g && mE sc a x && mE sc b y
  | .enum a, .Call (.Name g _) [x] [] _ => isTupE tg && decide (g = ("enumerate" : Str)) && freeB L sc g && mE sc a x
  | _, _ => false
def mG (fn : Str → Bool) (sc : Scope) : Ag → Expr → Bool
  | .nm i, .Name x _ => decide (N[i]? = some x) && locB sc x && (fn x || onlyLocB sc x)
  | .tp gs, .Tuple xs _ _ => mGs fn sc gs xs
  | _, _ => false
def mGs (fn : Str → Bool) (sc : Scope) : Ags → List Expr → Bool
  | .nil, [] => true
  | .cons g gs, x :: xs => mG fn sc g x && mGs fn sc gs xs
  | _, _ => false
end
end
end Mx

end

section
set_option Elab.async false
set_option Elab.async false
set_option linter.all false
set_option maxRecDepth 100000
set_option maxHeartbeats 2000000
/-! Tuples whose object is known: that it has no dict. -/
namespace Mx
open PySem PySem.Spec PyProof.Rows L2
/-- what is wanted of a new tuple -/
abbrev NewT (vs : List V) (H : Hp) (Q : VK) : Prop := ∀ p o, H p = none → o.dict = none → Q (.ref p) (upd H p (.frz o (.tup vs)))
section
variable {X : Cx} {pins : List (Addr × Obj)} {σ : L2.St} {H : Hp} {s : Shared} {Q : VK}
/-- it is laid -/
theorem lay_tup (I : Inv X pins σ H s) {xs : List V} {its : List Value} (r : Vals xs its) (z : xs.length ≤ sizeLine) (q : NewT xs H Q) : EP X pins σ Q (.ref s.heap.objs.size) { s with heap := s.heap.push { cls := .type "tuple", data := .seq its.toArray } } := by
  have hf : H s.heap.objs.size = none := I.hok.fresh (Nat.le_refl _)
  refine ⟨.ref s.heap.objs.size, upd H s.heap.objs.size (.frz { cls := .type "tuple", data := .seq its.toArray } (.tup xs)), I.laid (t' := s.toks) (fun b u e => Heap.get?_push_of_some _ e) (Nat.le_refl _) ?_, rfl, q _ _ hf rfl⟩
  exact ⟨Heap.get?_push_size _ rfl, z, its, r, IsTup.new _ _⟩
end
section
variable {X : Cx} {es : List Expr} {t : TA} {pos : Pos}
def tTupN (t : TA) : TE := fun σ H Q => t σ H fun xs H1 => xs.length ≤ sizeLine ∧ NewT xs H1 Q
theorem pe_tupN {x1} (h : PA X es t) : PE X (.Tuple es x1 pos) (tTupN t) := by
  refine ⟨fun pins s σ H Q I hq => ?_⟩
  exact wpAny_Tuple_spliced (thn (h.run pos pins s σ H _ I hq) fun us s1 ⟨xs, H1, I1, r, z, q⟩ => ⟨by rw [← r.length]; exact z, lay_tup I1 r z q⟩)
/-- t + u -/
def rCatN (K : PySem.W.Frag) : R2 := fun x y H Q => ∃ a b xs ys, x = .ref a ∧ y = .ref b ∧ SqT K H a xs ∧ SqT K H b ys ∧ xs.length + ys.length ≤ sizeLine ∧
  (xs = [] → Q (.ref b) H) ∧ (xs ≠ [] → ys = [] → Q (.ref a) H) ∧ (xs ≠ [] → ys ≠ [] → NewT (xs ++ ys) H Q)
theorem op_catN : OpR X (binaryOp .Add) (rCatN X.K) := by
  intro pins s σ H x y v u Q I rx ry h
  obtain ⟨a, b, xs, ys, rfl, rfl, ha, hb, hz, q0, q1, q2⟩ := h
  cases rx
  cases ry
  obtain ⟨its, r1, p1, _⟩ := I.tuple ha
  obtain ⟨its2, r2, p2, _⟩ := I.tuple hb
  by_cases hx : xs = []
  · subst hx
    cases r1
    exact cat_tup0 p1 p2 ⟨.ref b, H, I, rfl, q0 rfl⟩
  · refine HT.cat_tup p1 p2 (fun z => hx (r1.nil_iff.mp z)) (fun z => ⟨.ref a, H, I, rfl, q1 hx (r2.nil_iff.mp z)⟩) (fun z => ?_) (by rw [← r1.length, ← r2.length]; exact hz)
    exact lay_tup I (r1.append r2) (by rw [List.length_append]; exact hz) (q2 hx fun w => z (r2.nil_iff.mpr w))
/-- t[lo:hi] -/
def rSlN (K : PySem.W.Frag) : V → Option Int → Option Int → Hp → VK → Prop := fun x lo hi H Q => ∃ a xs, x = .ref a ∧ SqT K H a xs ∧
  (HT.sIx xs.length 0 lo = 0 ∧ HT.sIx xs.length xs.length hi = xs.length → Q (.ref a) H) ∧ (¬ (HT.sIx xs.length 0 lo = 0 ∧ HT.sIx xs.length xs.length hi = xs.length) → NewT (cutV xs lo hi) H Q)
theorem sl_tupN : SlR X (rSlN X.K) := by
  intro pins s σ H x v vl vu lo hi sl Q I rx hs pl pu h
  obtain ⟨a, xs, rfl, hx, q1, q2⟩ := h
  cases rx
  obtain ⟨its, r, ht, hz⟩ := I.tuple hx
  have hlen : its.toArray.size = xs.length := by rw [List.size_toArray]; exact r.length.symm
  refine ⟨"tuple", _, PyProof.Rows.slot_tuple_getitem.lookup, ht.typeIs, ?_⟩
  by_cases hw : HT.sIx xs.length 0 lo = 0 ∧ HT.sIx xs.length xs.length hi = xs.length
  · exact getItem_tuple_whole ht hs pl pu (by rw [hlen]; exact hw) ⟨.ref a, H, I, rfl, q1 hw⟩
  · refine HT.getItem_tuple_cut ht hs pl pu (by rw [hlen]; exact hw) ?_ (by rw [hlen]; exact hz)
    rw [hlen]
    exact lay_tup I ((r.drop (HT.sIx xs.length 0 lo)).take (HT.sIx xs.length xs.length hi - HT.sIx xs.length 0 lo)) (Nat.le_trans (cutV_length xs lo hi) hz) (q2 hw)
/-- tuple(x) -/
def rTupN (K : PySem.W.Frag) : List V → Hp → VK → Prop := fun xs H Q => ∃ p ys, xs = [.ref p] ∧ ((SqL K H p ys ∧ NewT ys H Q) ∨ (SqT K H p ys ∧ Q (.ref p) H))
theorem call_tupN : CallR X (.type "tuple") (rTupN X.K) := by
  intro pins s σ H xs us Q I r h
  obtain ⟨p, ys, rfl, h⟩ := h
  obtain ⟨u, rfl, rx⟩ := vals1 r
  cases rx
  rcases h with ⟨hq, q⟩ | ⟨hq, q⟩
  · obtain ⟨its, r', pl, hz⟩ := I.list hq
    have hlen := r'.length
    refine call_tuple_list pl.isList (fun h' kp => ?_) (by simp only [List.size_toArray] <;> omega)
    have I1 : Inv X pins σ H { s with heap := h' } := I.kept (t' := s.toks) kp
    exact lay_tup I1 r' hz q
  · obtain ⟨its, r', pl, hz⟩ := I.tuple hq
    exact call_tuple_same pl ⟨.ref p, H, I, rfl, q⟩
end
end Mx

end

section
set_option Elab.async false
set_option Elab.async false
set_option linter.all false
set_option maxRecDepth 100000
set_option maxHeartbeats 2000000
/-! What the small language does is what the layer's readings ask. -/
namespace Mx
open PySem PySem.Spec PyProof.Rows L2

/-- from one state to a later one -/
structure Nx (K : Wr) (Z : List Addr) (G : Hp) (ι : List Addr) (H : Hp) (G' : Hp) (ι' : List Addr) (h' : MH) (H' : Hp) : Prop where
  same : Up G G'
  pre : Pre ι ι'
  hr : HR K Z G' ι' h' H'
  zz : ∀ z ∈ Z, H' z = H z
section
variable {K : Wr} {Z : List Addr} {G G1 G2 : Hp} {ι ι1 ι2 : List Addr} {h h1 h2 : MH} {H H1 H2 : Hp} {α β γ δ : Type} {exc : List Str}
theorem Nx.refl (R : HR K Z G ι h H) : Nx K Z G ι H G ι h H := ⟨Up.refl _, Pre.refl _, R, fun _ _ => rfl⟩
theorem Nx.trans (a : Nx K Z G ι H G1 ι1 h1 H1) (b : Nx K Z G1 ι1 H1 G2 ι2 h2 H2) : Nx K Z G ι H G2 ι2 h2 H2 :=
  ⟨a.same.trans b.same, a.pre.trans b.pre, b.hr, fun z hz => (b.zz z hz).trans (a.zz z hz)⟩

/-- what is wanted behind a run, of a result that stands for one of the layer's -/
def RP (exc : List Str) (K : Wr) (R : Hp → List Addr → α → β → Prop) (Z : List Addr) (G : Hp) (ι : List Addr) (H : Hp) (r : Res α) (Q : β → Hp → Prop) (E : XK) : Prop := match r with
  | .ok a h' => ∀ G' ι' H' b, Nx K Z G ι H G' ι' h' H' → R G' ι' a b → Q b H'
  | .exn c v h' => c ∈ exc ∧ ∀ G' ι' H' C dd x, Nx K Z G ι H G' ι' h' H' → K.mg c = some (.ref C) → G' dd = some (.xd [(("value" : Str), x)]) → RV K G' ι' v x → E (.ref C) (some dd) H'
  | .stuck => False
variable {R : Hp → List Addr → α → β → Prop} {R' : Hp → List Addr → γ → δ → Prop} {E : XK}
theorem RP.later {r : Res α} {Q : β → Hp → Prop} (p : RP exc K R Z G ι H r Q E) (n : Nx K Z G ι H G1 ι1 h1 H1) : RP exc K R Z G1 ι1 H1 r Q E := by
  cases r with
  | ok a h' => exact fun G' ι' H' b n' q => p G' ι' H' b (n.trans n') q
  | exn c v h' => exact ⟨p.1, fun G' ι' H' C dd x n' a b q => p.2 G' ι' H' C dd x (n.trans n') a b q⟩
  | stuck => exact p
theorem RP.bind {r : Res α} {f : α → MH → Res γ} {Q : δ → Hp → Prop} {Q1 : β → Hp → Prop} (p : RP exc K R' Z G ι H (r.bind f) Q E)
    (k : ∀ a h1 G1 ι1 H1 b, Nx K Z G ι H G1 ι1 h1 H1 → R G1 ι1 a b → RP exc K R' Z G1 ι1 H1 (f a h1) Q E → Q1 b H1) : RP exc K R Z G ι H r Q1 E := by
  cases r with
  | ok a h' => exact fun G' ι' H' b n q => k a h' G' ι' H' b n q (RP.later p n)
  | exn c v h' => exact p
  | stuck => exact p
theorem RP.imp {r : Res α} {Q Q' : β → Hp → Prop} (p : RP exc K R Z G ι H r Q E) (k : ∀ a h1 G1 ι1 H1 b, r = .ok a h1 → Nx K Z G ι H G1 ι1 h1 H1 → R G1 ι1 a b → Q b H1 → Q' b H1) : RP exc K R Z G ι H r Q' E := by
  cases r with
  | ok a h' => exact fun G' ι' H' b n q => k a h' G' ι' H' b rfl n q (p G' ι' H' b n q)
  | exn c v h' => exact p
  | stuck => exact p
theorem RP.ok_here {a : α} {b : β} {Q : β → Hp → Prop} (p : RP exc K R Z G ι H (.ok a h) Q E) (hr : HR K Z G ι h H) (r : R G ι a b) : Q b H := p G ι H b (Nx.refl hr) r
end

/-- the readings' relations -/
abbrev rV (K : Wr) : Hp → List Addr → PV → V → Prop := fun G ι x v => RV K G ι x v
abbrev rVs (K : Wr) : Hp → List Addr → List PV → List V → Prop := fun G ι xs vs => RVs K G ι xs vs
abbrev rId {α : Type} : Hp → List Addr → α → α → Prop := fun _ _ a b => a = b
section
variable (exc : List Str) (K : Wr) (W : WX)
/-- an expression's reading: what its run hands on -/
def tE (r : Env' → MH → Res PV) : TE := fun σ H Q => ∃ Z G ι h ρ, HR K Z G ι h H ∧ SR K G ι ρ σ ∧ RP exc K (rV K) Z G ι H (r ρ h) Q (fun cls d H' => W cls d σ H')
def tA (r : Env' → MH → Res (List PV)) : TA := fun σ H Q => ∃ Z G ι h ρ, HR K Z G ι h H ∧ SR K G ι ρ σ ∧ RP exc K (rVs K) Z G ι H (r ρ h) Q (fun cls d H' => W cls d σ H')
def tT (r : Env' → MH → Res Bool) : TT := fun σ H Q => ∃ Z G ι h ρ, HR K Z G ι h H ∧ SR K G ι ρ σ ∧ RP exc K (rId (α := Bool)) Z G ι H (r ρ h) Q (fun cls d H' => W cls d σ H')
def tOi (r : Env' → MH → Res (Option Int)) : TO := fun σ H Q => ∃ Z G ι h ρ, HR K Z G ι h H ∧ SR K G ι ρ σ ∧ RP exc K (rId (α := Option Int)) Z G ι H (r ρ h) Q (fun cls d H' => W cls d σ H')
end
/-- what a def promises: its body's run -/
def spF (exc : List Str) (K : Wr) (len : Nat) (b : List PV → MH → Res PV) : Sp := fun vs H Q E => ∃ Z G ι h as, as.length = len ∧ HR K Z G ι h H ∧ RVs K G ι as vs ∧ RP exc K (rV K) Z G ι H (b as h) Q E

/-! ### weakening -/
theorem _root_.L2.PE.weak {X : Cx} {e : Expr} {t t' : TE} (h : PE X e t) (k : ∀ σ H Q, t' σ H Q → t σ H Q) : PE X e t' := ⟨fun pins s σ H Q I q => h.run pins s σ H Q I (k σ H Q q)⟩
theorem _root_.L2.PT.weak {X : Cx} {e : Expr} {t t' : TT} (h : PT X e t) (k : ∀ σ H Q, t' σ H Q → t σ H Q) : PT X e t' := ⟨fun pins s σ H Q I q => h.run pins s σ H Q I (k σ H Q q)⟩
theorem _root_.L2.PW.weak {X : Cx} {e : Expr} {t t' : TT} (h : PW X e t) (k : ∀ σ H Q, t' σ H Q → t σ H Q) : PW X e t' := ⟨fun wh pins s σ H Q I q => h.run wh pins s σ H Q I (k σ H Q q)⟩
theorem _root_.L2.PA.weak {X : Cx} {es : List Expr} {t t' : TA} (h : PA X es t) (k : ∀ σ H Q, t' σ H Q → t σ H Q) : PA X es t' := ⟨fun pos pins s σ H Q I q => h.run pos pins s σ H Q I (k σ H Q q)⟩
theorem _root_.L2.PO.weak {X : Cx} {e : Option Expr} {t t' : TO} (h : PO X e t) (k : ∀ σ H Q, t' σ H Q → t σ H Q) : PO X e t' := ⟨fun pins s σ H Q I q => h.run pins s σ H Q I (k σ H Q q)⟩
theorem _root_.L2.PSs.weak {X : Cx} {st : List Stmt} {t t' : TS} (h : PSs X st t) (k : ∀ D σ H, t' D σ H → t D σ H) : PSs X st t' := ⟨fun pins s σ H D I q => h.run pins s σ H D I (k D σ H q)⟩
theorem _root_.L2.PS.weak {X : Cx} {st : Stmt} {t t' : TS} (h : PS X st t) (k : ∀ D σ H, t' D σ H → t D σ H) : PS X st t' := ⟨fun pins s σ H D I q => h.run pins s σ H D I (k D σ H q)⟩
end Mx

end

section
set_option Elab.async false
set_option Elab.async false
set_option linter.all false
set_option maxRecDepth 100000
set_option maxHeartbeats 4000000
/-! Texts times a number; slices with a step. -/
namespace Mx
open PySem PySem.Spec PyProof.Rows L2
section
variable {X : Cx}
/-- text * number, by values -/
def rRepS : R2 := fun x y H Q => ∃ z k, x = .str z ∧ y = .int k ∧ -(2 ^ 63) ≤ k ∧ k < 2 ^ 63 ∧ z.length * k.toNat ≤ sizeLine ∧ Q (.str (timesS z k)) H
theorem op_repS : OpR X (binaryOp .Mult) rRepS := by
  rintro pins s σ H x y v u Q I rx ry ⟨z, k, rfl, rfl, h1, h2, hz, q⟩
  obtain ⟨t, rfl⟩ := (show ∃ t, v = Value.str z t from rx)
  obtain ⟨t2, rfl⟩ := (show ∃ t, u = Value.int k t from ry)
  have fin : ∀ t, EP X pins σ Q (.str (timesS z k) t) { s with toks := s.toks + 1 } := fun t => ⟨.str (timesS z k), H, I.tok _, ⟨t, rfl⟩, q⟩
  have fin0 : ∀ t, EP X pins σ Q (.str (timesS z k) t) s := fun t => ⟨.str (timesS z k), H, I, ⟨t, rfl⟩, q⟩
  refine P.mul_str (by rw [decide_eq_false (by omega), decide_eq_false (by omega)]; rfl) (fun k1 _ => ?_) (fun k1 _ => ?_) ?_
  · have e1 : (z.length : Int) * k ≤ 16777216 := by
      have e2 : (k.toNat : Int) = k := by omega
      rw [sizeLine_eq] at hz
      have e3 : ((z.length * k.toNat : Nat) : Int) ≤ ((16777216 : Nat) : Int) := Int.ofNat_le.mpr hz
      rw [Int.natCast_mul, e2] at e3
      exact e3
    intro e4
    have e5 : (2 ^ 63 - 1 : Int) / k < (z.length : Int) := e4
    rw [Int.ediv_lt_iff_lt_mul (by omega)] at e5
    omega
  · unfold Builtin.Str.tooLong
    exact decide_eq_false (by omega)
  · by_cases c1 : k < 1
    · rw [if_pos c1]
      have e : timesS z k = Str.empty := by unfold timesS; rw [if_pos c1]
      refine ⟨by decide, ?_⟩
      have := fin s.toks
      rw [e] at this
      exact this
    · rw [if_neg c1]
      by_cases c2 : (k == 1 || z.length == 0) = true
      · rw [if_pos c2]
        have e : timesS z k = z := by unfold timesS; rw [if_neg c1, if_pos c2]
        have := fin0 t
        rw [e] at this
        exact this
      · rw [if_neg c2]
        have e : timesS z k = ⟨(List.replicate k.toNat z.cps).foldl (· ++ ·) #[]⟩ := by unfold timesS; rw [if_neg c1, if_neg c2]
        refine ⟨?_, ?_⟩
        · rw [← e]; exact timesS_le hz
        · have := fin s.toks
          rw [e] at this
          exact this
end
/-! ### t[lo:hi:step], xs[lo:hi:step] -/
section
variable {prog : Program} {w : World} {A : Around} {E : Value → Shared → Prop} {s : Shared}
theorem part_ix {v : Value} {o : Option Int} {Q : Option Int → Shared → Prop} (p : IsPart v o) (h : Q o s) : wpAny (model prog w) A (Builtin.Slice.slicePartIndex v) Q E s := HT.slicePart_ p h
theorem step_applied {sl : Addr} {vl vu vc : Value} {lo hi : Option Int} {c : Int} {n : Nat} {Q : Int × Int × Nat → Shared → Prop} (hs : s.heap.IsSliceOf sl vl vu vc) (pl : IsPart vl lo) (pu : IsPart vu hi) (pc : IsPart vc (some c)) (h0 : c ≠ 0)
    (h : Q ((Builtin.Slice.sliceAdjust lo hi c n).1, c, Builtin.Slice.slicePlaces (Builtin.Slice.sliceAdjust lo hi c n).1 (Builtin.Slice.sliceAdjust lo hi c n).2 c) s) : wpAny (model prog w) A (Builtin.Slice.sliceApplied (.ref sl) (pure (n : Int))) Q E s := by
  obtain ⟨ob, ho, hc, hd⟩ := id hs
  unfold Builtin.Slice.sliceApplied
  unfold Builtin.Slice.sliceFields
  refine wpAny_bind (wpAny_bind (wpAny_field ho hd (x := vl) rfl (wpAny_bind (wpAny_field ho hd (x := vu) rfl (wpAny_bind (wpAny_field ho hd (x := vc) rfl (wpAny_pure ?_)))))))
  refine wpAny_bind (part_ix pc ?_)
  show wpAny _ _ (if (c == 0) = true then _ else _) _ _ s
  rw [if_neg (by simpa using h0)]
  exact wpAny_bind (part_ix pl (wpAny_bind (part_ix pu (wpAny_bind (wpAny_pure (wpAny_pure h))))))
/-- the items that a step takes -/
def stepIx (lo hi : Option Int) (c : Int) (n : Nat) : List Nat := (List.range (Builtin.Slice.slicePlaces (Builtin.Slice.sliceAdjust lo hi c n).1 (Builtin.Slice.sliceAdjust lo hi c n).2 c)).map fun (m : Nat) => ((Builtin.Slice.sliceAdjust lo hi c n).1 + (m : Int) * c).toNat
theorem getItem_tuple_step {t sl : Addr} {items : Array Value} {vl vu vc : Value} {lo hi : Option Int} {c : Int} {Q : Value → Shared → Prop} (ht : IsTup s.heap t items) (hs : s.heap.IsSliceOf sl vl vu vc) (pl : IsPart vl lo) (pu : IsPart vu hi) (pc : IsPart vc (some c)) (h0 : c ≠ 0) (h1 : c ≠ 1)
    (hz : ((stepIx lo hi c items.size).filterMap (items[·]?)).length ≤ sizeLine)
    (h : Q (.ref s.heap.objs.size) { s with heap := s.heap.push { cls := .type "tuple", data := .seq ((stepIx lo hi c items.size).filterMap (items[·]?)).toArray } }) : wpAny (model prog w) A (getItem (.ref t) (.ref sl)) Q E s := by
  obtain ⟨ob, ho, hc, hd⟩ := id hs
  have hT : s.TypeIs (.ref sl) "slice" := ⟨ob, ho, hc⟩
  have fit : sizeOk (.seq ((stepIx lo hi c items.size).filterMap (items[·]?)).toArray) := by
    show (((stepIx lo hi c items.size).filterMap (items[·]?)).toArray).size ≤ sizeLine
    rw [List.size_toArray]; exact hz
  unfold getItem
  try with_reducible refine wpAny_holding ?_
  first | refine wpAny_bind (wpAny_pure ?_) | skip
  refine wpAny_bind (wpAny_sequenceKey ht.typeIs (by decide) ?_)
  have sl1 := PyProof.Rows.slot_tuple_getitem
  refine wpAny_bind (wpAny_callSpecial?_slot (name := Str.ofString "__getitem__") ht.typeIs sl1 (wpAny_call_entry sl1 ht.typeIs PyProof.Rows.entry_tuple_getitem ?_ (PyProof.Rows.args_tuple_getitem _ _)))
  show wpAny _ _ (Builtin.Tuple.tupleItemsOf (.ref t) >>= _) _ _ s
  refine wpAny_bind (PyProof.Rows.tupleItemsOf_ ht (wpAny_bind (wpAny_typeOf hT ?_)))
  rw [if_pos (by decide)]
  refine wpAny_bind (step_applied hs pl pu pc h0 ?_)
  have no : ¬ (((Builtin.Slice.sliceAdjust lo hi c items.size).1 == 0 && c == 1 && Builtin.Slice.slicePlaces (Builtin.Slice.sliceAdjust lo hi c items.size).1 (Builtin.Slice.sliceAdjust lo hi c items.size).2 c == items.size) = true) := by
    intro q
    simp only [Bool.and_eq_true, beq_iff_eq] at q
    exact h1 q.1.2
  show wpAny _ _ (if ((Builtin.Slice.sliceAdjust lo hi c items.size).1 == 0 && c == 1 && Builtin.Slice.slicePlaces (Builtin.Slice.sliceAdjust lo hi c items.size).1 (Builtin.Slice.sliceAdjust lo hi c items.size).2 c == items.size) = true then _ else _) _ _ s
  rw [if_neg no]
  have ei : ((List.range (Builtin.Slice.slicePlaces (Builtin.Slice.sliceAdjust lo hi c items.size).1 (Builtin.Slice.sliceAdjust lo hi c items.size).2 c)).filterMap fun (m : Nat) => items[((Builtin.Slice.sliceAdjust lo hi c items.size).1 + (m : Int) * c).toNat]?) = (stepIx lo hi c items.size).filterMap (items[·]?) := by
    unfold stepIx
    rw [List.filterMap_map]
    rfl
  rw [ei]
  have fin := h
  first
    | exact wpAny_bind (m := Builtin.Tuple.tupleExact _) (wpAny_newObj_type (wpAny_pure ⟨_, rfl, wpAny_pure fin⟩) fit)
    | exact wpAny_bind (m := Builtin.Tuple.tupleExact _) (wpAny_newObj_type (wpAny_bind (wpAny_pure (wpAny_pure ⟨_, rfl, wpAny_pure fin⟩))) fit)
    | exact wpAny_bind (wpAny_bind (m := Builtin.Tuple.tupleExact _) (wpAny_newObj_type (wpAny_pure (wpAny_pure ⟨_, rfl, wpAny_pure fin⟩)) fit))
    | exact wpAny_bind (wpAny_bind (m := Builtin.Tuple.tupleExact _) (wpAny_newObj_type (wpAny_pure ⟨_, rfl, wpAny_pure fin⟩) fit))
end
/-- the items at places -/
def pickBy {α : Type} (is : List Nat) (xs : List α) : List α := is.filterMap (xs[·]?)
/-- the places that a list's step takes -/
def stepL (lo hi : Option Int) (c : Int) (n : Nat) : List Nat := sliceRange (sliceBounds lo hi (some c) n).1 (sliceBounds lo hi (some c) n).2.1 (sliceBounds lo hi (some c) n).2.2
theorem stepIx_rev (n : Nat) : stepIx none none (-1) n = (List.range n).reverse := by
  have e : Builtin.Slice.slicePlaces (Builtin.Slice.sliceAdjust none none (-1) n).1 (Builtin.Slice.sliceAdjust none none (-1) n).2 (-1) = n := by
    show (if (-1 : Int) > 0 then _ else (if ((n : Int) - 1) > -1 then (((n : Int) - 1) - -1 - 1) / (-(-1)) + 1 else 0)).toNat = n
    rw [if_neg (by decide)]
    by_cases h : ((n : Int) - 1) > -1
    · rw [if_pos h, show (-(-1) : Int) = 1 by decide, Int.ediv_one]; omega
    · rw [if_neg h]; omega
  unfold stepIx
  rw [e, ← PySem.W.krv_range]
  refine List.map_congr_left fun m hm => ?_
  have := List.mem_range.mp hm
  show (((n : Int) - 1) + (m : Int) * (-1)).toNat = n - 1 - m
  omega
theorem pick_rev (items : Array Value) : (stepIx none none (-1) items.size).filterMap (items[·]?) = items.toList.reverse := by
  rw [stepIx_rev, List.filterMap_reverse, PySem.W.krv_all]
/-- x[::-1] -/
def tRev2 (K : PySem.W.Frag) (te : TE) : TE := fun σ H Q => te σ H fun x H1 => ∃ a xs, x = .ref a ∧ ((SqL K H1 a xs ∧ ∀ p, H1 p = none → Q (.ref p) (upd H1 p (.lst xs.reverse))) ∨ (SqT K H1 a xs ∧ NewT xs.reverse H1 Q))
theorem pe_rev2 {X : Cx} {e : Expr} {te : TE} {k : Nat} {p1 p2 p3 pos : Pos} (he : PE X e te) : PE X (.Subscript e (.Slice none none (some (.UnaryOp .USub (.Constant (.int 1) k p1) p2)) p3) pos) (tRev2 X.K te) := by
  constructor
  intro pins s σ H Q I h
  refine Subscript_ (thn (he.run pins s σ H _ I h) ?_)
  rintro v s1 ⟨x, H1, I1, r1, a, xs, rfl, hx⟩
  cases r1
  have st : PO X (some (.UnaryOp .USub (.Constant (.int 1) k p1) p2)) (tPart (tUn (rU fun i => .int (-i)) (tC (.int 1)))) := po_some (pe_un un_neg pe_int)
  refine wpAny_Slice (thn (po_none.run pins s1 σ H1 (fun o H2 => o = none ∧ H2 = H1) I1 ⟨rfl, rfl⟩) ?_)
  rintro vl s2 ⟨_, H2, I2, pl, rfl, rfl⟩
  refine thn (po_none.run pins s2 σ H2 (fun o H3 => o = none ∧ H3 = H2) I2 ⟨rfl, rfl⟩) ?_
  rintro vu s3 ⟨_, H3, I3, pu, rfl, rfl⟩
  refine thn (st.run pins s3 σ H3 (fun o H4 => o = some (-1) ∧ H4 = H3) I3 ⟨1, rfl, -1, rfl, rfl, rfl⟩) ?_
  rintro vc s4 ⟨_, H4, I4, pc, rfl, rfl⟩
  have I5 : Inv X pins σ H4 { s4 with heap := s4.heap.push { cls := .type "slice", data := .fields #[vl, vu, vc] } } := I4.kept (t' := s4.toks) fun b o q => Heap.get?_push_of_some _ q
  show wpAny (model X.prog X.w) X.A (subscriptTail e _ (.ref a) (.ref s4.heap.objs.size)) _ X.xe _
  have room := I5.hok.fresh (Nat.le_refl _)
  rcases hx with ⟨hx, q⟩ | ⟨hx, q⟩
  · obtain ⟨its, r, ht, hz⟩ := I5.list hx
    have hl := r.length
    have slot := PySem.slot_list_getitem.lookup
    refine tail_any (ops := [.ref a, .ref s4.heap.objs.size]) ht.isList.typeIs slot ?_ (by with_unfolding_all rfl)
    refine wpAny_getItem_list_slice ht.isList (Heap.IsSliceOf.new _ vl vu vc) pl pu pc (by decide) ?_ (by rw [List.size_toArray]; omega)
    rw [PySem.W.krv_pick]
    have new : HO := .lst xs.reverse
    refine ⟨.ref _, _, I5.laid (t' := s4.toks) (o := .lst xs.reverse) (fun b o q => Heap.get?_push_of_some _ q) (Nat.le_refl _) ?_, rfl, q _ room⟩
    exact ⟨by simpa using hz, _, 0, r.reverse, Heap.get?_push_size _ rfl⟩
  · obtain ⟨its, r, ht, hz⟩ := I5.tuple hx
    have hl := r.length
    have slot := PyProof.Rows.slot_tuple_getitem.lookup
    refine tail_any (ops := [.ref a, .ref s4.heap.objs.size]) ht.typeIs slot ?_ (by with_unfolding_all rfl)
    refine getItem_tuple_step ht (Heap.IsSliceOf.new _ vl vu vc) pl pu pc (by decide) (by decide) ?_ ?_
    · rw [pick_rev, List.length_reverse]
      show its.toArray.toList.length ≤ _
      rw [List.toList_toArray, ← hl]; exact hz
    · rw [pick_rev]
      exact lay_tup I5 r.reverse (by simpa using hz) q
end Mx

end

section
set_option Elab.async false
set_option Elab.async false
set_option linter.all false
set_option maxRecDepth 100000
set_option maxHeartbeats 4000000
/-! x[lo::step], step a written number from 2 on -/
namespace Mx
open PySem PySem.Spec PyProof.Rows L2
theorem evry_count {n i st : Nat} (hs : 2 ≤ st) : (n - i + st - 1) / st = if i < n then (n - i - 1) / st + 1 else 0 := by
  by_cases h : i < n
  · rw [if_pos h, show n - i + st - 1 = (n - i - 1) + st by omega, Nat.add_div_right _ (by omega)]
  · rw [if_neg h]
    exact Nat.div_eq_of_lt (by omega)
theorem div_nat {a b : Nat} : ((a : Int) / (b : Int)) = ((a / b : Nat) : Int) := rfl
theorem stepIx_up {n st : Nat} {lo : Option Int} (h0 : 0 ≤ lo.getD 0) (hs : 2 ≤ st) : stepIx lo none (st : Int) n = evry (lo.getD 0).toNat st n := by
  obtain ⟨i, hi⟩ := Int.eq_ofNat_of_zero_le h0
  have ea : Builtin.Slice.sliceAdjust lo none (st : Int) n = (((min i n : Nat) : Int), (n : Int)) := by
    unfold Builtin.Slice.sliceAdjust
    have n1 : ¬ ((st : Int) < 0) := by omega
    simp only [if_neg n1]
    cases lo with
    | none =>
      have : i = 0 := by simpa using hi.symm
      subst this
      simp
    | some v =>
      have hv : v = (i : Int) := hi
      subst hv
      have n2 : ¬ ((i : Int) < 0) := by omega
      simp only [if_neg n2]
      have e : min (i : Int) (n : Int) = ((min i n : Nat) : Int) := by omega
      rw [e]
  have ec : Builtin.Slice.slicePlaces ((min i n : Nat) : Int) (n : Int) (st : Int) = (n - i + st - 1) / st := by
    rw [evry_count hs]
    unfold Builtin.Slice.slicePlaces
    rw [if_pos (by omega)]
    by_cases h : i < n
    · rw [if_pos (by omega), if_pos h]
      have e1 : (n : Int) - ((min i n : Nat) : Int) - 1 = ((n - i - 1 : Nat) : Int) := by omega
      rw [e1, div_nat]
      rfl
    · rw [if_neg (by omega), if_neg h]; rfl
  unfold stepIx
  rw [ea]
  dsimp only
  rw [ec, hi]
  unfold evry
  rw [Int.toNat_natCast]
  refine List.map_congr_left fun m hm => ?_
  have hm := List.mem_range.mp hm
  rw [evry_count hs] at hm
  by_cases h : i < n
  · have e : ((min i n : Nat) : Int) = (i : Int) := by omega
    rw [e, ← Int.natCast_mul, ← Int.natCast_add, Int.toNat_natCast]
  · rw [if_neg h] at hm; omega
theorem stepL_up {n st : Nat} {lo : Option Int} (h0 : 0 ≤ lo.getD 0) (hs : 2 ≤ st) : sliceRange (sliceBounds lo none (some (st : Int)) n).1 (sliceBounds lo none (some (st : Int)) n).2.1 (sliceBounds lo none (some (st : Int)) n).2.2 = evry (lo.getD 0).toNat st n := by
  obtain ⟨i, hi⟩ := Int.eq_ofNat_of_zero_le h0
  have p1 : (st : Int) > 0 := by omega
  have ea : sliceBounds lo none (some (st : Int)) n = (((min i n : Nat) : Int), (n : Int), (st : Int)) := by
    unfold sliceBounds
    simp only [Option.getD_some, if_pos p1]
    cases lo with
    | none =>
      have : i = 0 := by simpa using hi.symm
      subst this
      simp
    | some v =>
      have hv : v = (i : Int) := hi
      subst hv
      have n2 : ¬ ((i : Int) < 0) := by omega
      simp only [if_neg n2]
      congr 1
      omega
  rw [ea]
  dsimp only
  unfold sliceRange
  simp only [if_pos p1]
  have ec : (if ((min i n : Nat) : Int) < (n : Int) then ((n : Int) - ((min i n : Nat) : Int) + (st : Int) - 1) / (st : Int) else 0).toNat = (n - i + st - 1) / st := by
    by_cases h : i < n
    · rw [if_pos (by omega)]
      have e1 : (n : Int) - ((min i n : Nat) : Int) + (st : Int) - 1 = ((n - i + st - 1 : Nat) : Int) := by omega
      rw [e1, div_nat, Int.toNat_natCast]
    · rw [if_neg (by omega), evry_count hs, if_neg h]; rfl
  rw [ec, hi]
  unfold evry
  rw [Int.toNat_natCast]
  refine List.map_congr_left fun m hm => ?_
  have hm := List.mem_range.mp hm
  rw [evry_count hs] at hm
  by_cases h : i < n
  · have e : ((min i n : Nat) : Int) = (i : Int) := by omega
    rw [e, ← Int.natCast_mul, ← Int.natCast_add, Int.toNat_natCast, Nat.mul_comm]
  · rw [if_neg h] at hm; omega
theorem evry_len {n i st : Nat} (hs : 2 ≤ st) : (evry i st n).length ≤ n := by
  unfold evry
  rw [List.length_map, List.length_range]
  rcases Nat.eq_zero_or_pos n with q | q
  · subst q
    rw [evry_count hs, if_neg (by omega)]
    exact Nat.le_refl _
  · refine Nat.div_le_of_le_mul ?_
    have h1 : st * n = n + (st - 1) * n := by
      have := Nat.succ_mul (st - 1) n
      rw [show (st - 1).succ = st by omega] at this
      omega
    have h2 : (st - 1) * 1 ≤ (st - 1) * n := Nat.mul_le_mul_left _ q
    omega
/-- the items taken -/
def takeE {α : Type} (i st : Nat) (xs : List α) : List α := (evry i st xs.length).filterMap (xs[·]?)
def tStep (K : PySem.W.Frag) (te : TE) (tl : TO) (c : Nat) : TE := fun σ H Q => te σ H fun x H1 => tl σ H1 fun o H2 => ∃ a xs, x = .ref a ∧ 0 ≤ o.getD 0 ∧ 2 ≤ c ∧ ((SqL K H2 a xs ∧ ∀ p, H2 p = none → Q (.ref p) (upd H2 p (.lst (takeE (o.getD 0).toNat c xs)))) ∨ (SqT K H2 a xs ∧ NewT (takeE (o.getD 0).toNat c xs) H2 Q))
theorem vals_pick {is : List Nat} {xs : List V} {us : List Value} (r : Vals xs us) : Vals (is.filterMap (xs[·]?)) (is.filterMap (us[·]?)) := by
  have len := r.length
  induction is with
  | nil => exact .nil
  | cons i is ih =>
    by_cases hi : i < xs.length
    · have hx : xs[i]? = some xs[i] := List.getElem?_eq_getElem hi
      obtain ⟨u, hu, rr⟩ := r.get hx
      rw [List.filterMap_cons, List.filterMap_cons, hx, hu]
      exact .cons rr ih
    · rw [List.filterMap_cons, List.filterMap_cons, List.getElem?_eq_none (by omega), List.getElem?_eq_none (by omega)]
      exact ih
theorem take_arr {us : List Value} {i c : Nat} : (evry i c us.toArray.size).filterMap (us.toArray[·]?) = takeE i c us := by
  unfold takeE
  rw [List.size_toArray]
  congr 1
  funext j
  simp
theorem takeE_len {α : Type} {xs : List α} {i c : Nat} (hs : 2 ≤ c) : (takeE i c xs).length ≤ xs.length := Nat.le_trans (List.length_filterMap_le ..) (evry_len hs)
theorem pe_step {X : Cx} {e : Expr} {te : TE} {lo : Option Expr} {tl : TO} {c : Nat} {k : Nat} {p1 p3 pos : Pos} (he : PE X e te) (hl : PO X lo tl) : PE X (.Subscript e (.Slice lo none (some (.Constant (.int (c : Int)) k p1)) p3) pos) (tStep X.K te tl c) := by
  refine ⟨fun pins s σ H Q I h => Subscript_ (thn (he.run pins s σ H _ I h) ?_)⟩
  rintro v s1 ⟨x, H1, I1, r1, hx⟩
  have st : PO X (some (.Constant (.int (c : Int)) k p1)) (tPart (tC (.int (c : Int)))) := po_some pe_int
  refine wpAny_Slice (thn (hl.run pins s1 σ H1 _ I1 hx) ?_)
  rintro vl s2 ⟨o, H2, I2, pl, a, xs, rfl, h0, h2, hx⟩
  cases r1
  refine thn (po_none.run pins s2 σ H2 (fun o' H3 => o' = none ∧ H3 = H2) I2 ⟨rfl, rfl⟩) ?_
  rintro vu s3 ⟨_, H3, I3, pu, rfl, rfl⟩
  refine thn (st.run pins s3 σ H3 (fun o' H4 => o' = some (c : Int) ∧ H4 = H3) I3 ⟨_, rfl, rfl, rfl⟩) ?_
  rintro vc s4 ⟨_, H4, I4, pc, rfl, rfl⟩
  have I5 : Inv X pins σ H4 { s4 with heap := s4.heap.push { cls := .type "slice", data := .fields #[vl, vu, vc] } } := I4.kept (t' := s4.toks) fun b u z => Heap.get?_push_of_some _ z
  show wpAny (model X.prog X.w) X.A (subscriptTail e _ (.ref a) (.ref s4.heap.objs.size)) _ X.xe _
  have room := I5.hok.fresh (Nat.le_refl _)
  have ne0 : (c : Int) ≠ 0 := by omega
  have ne1 : (c : Int) ≠ 1 := by omega
  rcases hx with ⟨hx, q⟩ | ⟨hx, q⟩
  · obtain ⟨its, r, ht, hz⟩ := I5.list hx
    have hl := r.length
    have fit : its.toArray.size ≤ sizeLine := by rw [List.size_toArray]; omega
    refine tail_any (ops := [.ref a, .ref s4.heap.objs.size]) ht.isList.typeIs PySem.slot_list_getitem.lookup ?_ (by with_unfolding_all rfl)
    refine wpAny_getItem_list_slice ht.isList (Heap.IsSliceOf.new _ vl vu vc) pl pu pc (fun z => ne0 (Option.some.inj z)) ?_ fit
    have ep : slicePick its.toArray o none (some (c : Int)) = (takeE (o.getD 0).toNat c its).toArray := by
      unfold slicePick
      rw [stepL_up h0 h2, take_arr]
    rw [ep]
    refine ⟨.ref _, _, I5.laid (t' := s4.toks) (o := .lst (takeE (o.getD 0).toNat c xs)) (fun b u z => Heap.get?_push_of_some _ z) (Nat.le_refl _) ?_, rfl, q _ room⟩
    refine ⟨Nat.le_trans (takeE_len h2) (by omega), _, 0, ?_, Heap.get?_push_size _ rfl⟩
    have := vals_pick (is := evry (o.getD 0).toNat c xs.length) r
    unfold takeE
    rw [← hl]
    exact this
  · obtain ⟨its, r, ht, hz⟩ := I5.tuple hx
    have hl := r.length
    have tk : (stepIx o none (c : Int) its.toArray.size).filterMap (its.toArray[·]?) = takeE (o.getD 0).toNat c its := by rw [stepIx_up h0 h2, take_arr]
    have rp : Vals (takeE (o.getD 0).toNat c xs) (takeE (o.getD 0).toNat c its) := by
      have := vals_pick (is := evry (o.getD 0).toNat c xs.length) r
      unfold takeE
      rw [← hl]
      exact this
    refine tail_any (ops := [.ref a, .ref s4.heap.objs.size]) ht.typeIs PyProof.Rows.slot_tuple_getitem.lookup ?_ (by with_unfolding_all rfl)
    refine getItem_tuple_step ht (Heap.IsSliceOf.new _ vl vu vc) pl pu pc ne0 ne1 ?_ ?_
    · rw [tk]; exact Nat.le_trans (takeE_len h2) (by omega)
    · rw [tk]; exact lay_tup I5 rp (Nat.le_trans (takeE_len h2) hz) q
end Mx

end

section
set_option Elab.async false
set_option Elab.async false
set_option linter.all false
set_option maxRecDepth 100000
set_option maxHeartbeats 2000000
/-! The operators, by values. -/
namespace Mx
open PySem PySem.Spec PyProof.Rows L2

section
variable {X : Cx} {pins : List (Addr × Obj)} {σ : L2.St} {H : Hp} {s : Shared}
/-- a list that is read, as it lies -/
theorem inv_lstR (I : Inv X pins σ H s) {a : Addr} {xs : List V} (h : Rd H a (.lst xs)) : xs.length ≤ sizeLine ∧ ∃ (its : List Value) (n : Nat), Vals xs its ∧ xs.length = its.length ∧ s.heap.get? a = some { cls := .type "list", data := .seq its.toArray n } := by
  obtain ⟨z, its, n, r, e⟩ := h.ok I.hok
  exact ⟨z, its, n, r, r.length, e⟩
def rCatR : R2 := fun x y H Q => ∃ l b xs zs, x = .ref l ∧ y = .ref b ∧ Rd H l (.lst xs) ∧ Rd H b (.lst zs) ∧ xs.length + zs.length ≤ sizeLine ∧ ∀ p, H p = none → Q (.ref p) (upd H p (.lst (xs ++ zs)))
theorem op_catR : OpR X (binaryOp .Add) rCatR := by
  intro pins s σ H x y v u Q I rx ry h
  obtain ⟨l, b, xs, zs, rfl, rfl, hH, hB, hz, q⟩ := h
  cases rx
  cases ry
  obtain ⟨z, its, n, r, hl, e⟩ := inv_lstR I hH
  obtain ⟨z2, its2, n2, r2, hl2, e2⟩ := inv_lstR I hB
  refine PySem.P.add_list e e2 ?_ (by rw [List.size_toArray, List.size_toArray]; omega)
  have ea : its.toArray ++ its2.toArray = (its ++ its2).toArray := by simp
  rw [ea]
  exact ⟨.ref _, _, I.lnew (t' := s.toks) (r.append r2) (by rw [List.length_append]; omega), rfl, q _ I.fresh⟩
def rRepR : R2 := fun x y H Q => ∃ l k xs, x = .ref l ∧ y = .int k ∧ Rd H l (.lst xs) ∧ -(2 ^ 63) ≤ k ∧ k < 2 ^ 63 ∧ xs.length * k.toNat ≤ sizeLine ∧
  ∀ p, H p = none → Q (.ref p) (upd H p (.lst (List.replicate k.toNat xs).flatten))
theorem op_repR : OpR X (binaryOp .Mult) rRepR := by
  intro pins s σ H x y v u Q I rx ry h
  obtain ⟨l, k, xs, rfl, rfl, hH, h1, h2, hz, q⟩ := h
  cases rx
  obtain ⟨t, rfl⟩ := ry
  obtain ⟨z, its, n, r, hl, e⟩ := inv_lstR I hH
  have hlen : its.toArray.size * k.toNat ≤ sizeLine := by rw [List.size_toArray, ← hl]; exact hz
  have hcap : ¬ its.toArray.size * k.toNat > (2 ^ 63 - 1) / 8 := by
    have : (sizeLine : Nat) ≤ (2 ^ 63 - 1) / 8 := by decide
    omega
  have hfit : ¬ (!Builtin.List.listFitsIndex k) = true := by
    rw [fitsIndex_both h1 h2]
    exact Bool.false_ne_true
  have hlong : ¬ Builtin.List.listTooLong (its.toArray.size * k.toNat) = true := by
    rw [notLongL hlen]
    exact Bool.false_ne_true
  have hnew : List.foldl (fun x1 x2 => x1 ++ x2) #[] (List.replicate (if its.toArray.isEmpty = true then 0 else k.toNat) its.toArray) = (List.replicate k.toNat its).flatten.toArray := by
    have f0 : ∀ m : Nat, List.foldl (fun x1 x2 => x1 ++ x2) #[] (List.replicate m its.toArray) = (List.replicate m its).flatten.toArray := fun m => by
      have := foldl_rep its m []
      rw [List.nil_append] at this
      exact this
    rw [f0]
    cases its with
    | nil => simp
    | cons a r' => rw [if_neg (by simp)]
  refine wpAny_binaryOp_repeat_ref (T := "list") (U := "int") (by decide) ⟨_, e, rfl⟩ (fun s' => typeIs_int s' k t) noFill_list_mul F.fills_int_mul F.slot_int_rmul repeat_list F.slot_int_index.lookup
    (call_meets F.slot_int_rmul (typeIs_int s k t) F.entry_int_rmul (F.args_int_rmul_2 _ _) (int___rmul___int_list k t l its.toArray n)
      ⟨e, rfl, ⟨_, e, rfl⟩, call_meets F.slot_list_mul ⟨_, e, rfl⟩ F.entry_list_mul (F.args_list_mul_2 _ _) (AutoListH.list___mul___list_int_3 l its.toArray n k t hfit hcap hlong) ⟨e, ?_⟩⟩)
  rw [hnew]
  exact ⟨.ref _, _, I.lnew (t' := s.toks) (r.rep k.toNat) (by rw [PyProof.Rows.lm_len_rep_flat, Nat.mul_comm]; exact hz), rfl, q _ I.fresh⟩
end

section
variable {K : Wr} {Z : List Addr} {G : Hp} {ι : List Addr} {h : MH} {H : Hp} {exc : List Str} {E : XK} {Q : VK}
/-- the items of a sequence, in the layer's heap -/
inductive SqV (K : Wr) (G : Hp) (ι : List Addr) (H : Hp) (xs : List PV) : PV → V → Prop
  | tup {a : Addr} {ys : List PV} {vs : List V} : ys = xs → SqN K.K H a vs → RVs K G ι xs vs → SqV K G ι H xs (.tup ys) (.ref a)
  | lst {p : PV} {a : Addr} {vs : List V} : (∀ ys, p ≠ .tup ys) → Rd H a (.lst vs) → RVs K G ι xs vs → SqV K G ι H xs p (.ref a)
theorem rd_same {H H' : Hp} {a : Addr} {u : HO} (e : Same H H') (r : Rd H a u) : Rd H' a u := r.elim (fun q => .inl (e _ _ q)) fun ⟨o, q⟩ => .inr ⟨o, e _ _ q⟩
theorem items_of (R : HR K Z G ι h H) {p : PV} {v : V} {xs : List PV} (r : RV K G ι p v) (e : items h p = some xs) : SqV K G ι H xs p v := by
  cases r with
  | tup hs rs => cases e; exact .tup rfl (Same.seqN R.sub hs) rs
  | lst hs rs => cases e; exact .lst (fun _ z => nomatch z) (rd_same R.sub hs) rs
  | @ref n a hn =>
    unfold items at e
    obtain ⟨o, ho, ro⟩ := R.at hn
    simp only [ho] at e
    cases o with
    | lst ys =>
      cases e
      generalize hH : H a = u at ro
      cases ro with
      | lst rs => exact .lst (fun _ z => nomatch z) (.inl hH) rs
    | dic _ => cases e
    | fdic _ => cases e
    | ins _ _ => cases e
  | non => cases e
  | bl _ => cases e
  | int _ => cases e
  | str _ => cases e
  | dic _ _ _ => cases e
  | exn _ _ _ _ => cases e
  | fn _ => cases e
theorem SqV.sq {xs : List PV} {p : PV} {v : V} (q : SqV K G ι H xs p v) : ∃ a vs, v = .ref a ∧ (SqL K.K H a vs ∨ SqT K.K H a vs) ∧ RVs K G ι xs vs := by
  cases q with
  | tup _ h r => exact ⟨_, _, rfl, .inr h.sqT, r⟩
  | lst _ h r => exact ⟨_, _, rfl, .inl (.inl h), r⟩
/-- two tables side by side -/
def RK (K : Wr) (G : Hp) (ι : List Addr) : List (Key × PV) → List (Key × V) → Prop := Paired fun p q => p.1 = q.1 ∧ RV K G ι p.2 q.2
theorem rk_of : ∀ {ps : List (Key × PV)} {qs : List (Key × V)}, ps.map (·.1) = qs.map (·.1) → RVs K G ι (ps.map (·.2)) (qs.map (·.2)) → RK K G ι ps qs
  | [], [], _, _ => .nil
  | [], _ :: _, e, _ => by simp at e
  | _ :: _, [], e, _ => by simp at e
  | p :: ps, q :: qs, e, r => by
    rw [List.map_cons, List.map_cons] at e r
    rw [List.cons.injEq] at e
    obtain ⟨v, ws, e2, r1, r2⟩ := r.cons_inv
    rw [List.cons.injEq] at e2
    obtain ⟨e3, e4⟩ := e2
    exact .cons ⟨e.1, by rw [e3]; exact r1⟩ (rk_of e.2 (by rw [e4]; exact r2))
theorem RK.keys {ps : List (Key × PV)} {qs : List (Key × V)} (r : RK K G ι ps qs) : ps.map (·.1) = qs.map (·.1) := by
  unfold RK at r
  induction r with
  | nil => rfl
  | cons h _ ih => rw [List.map_cons, List.map_cons, ih, h.1]
theorem RK.vals {ps : List (Key × PV)} {qs : List (Key × V)} (r : RK K G ι ps qs) : RVs K G ι (ps.map (·.2)) (qs.map (·.2)) := by
  unfold RK at r
  induction r with
  | nil => exact .nil
  | cons h _ ih => exact .cons h.2 ih
theorem RK.length {ps : List (Key × PV)} {qs : List (Key × V)} (r : RK K G ι ps qs) : ps.length = qs.length := Paired.length r
theorem RK.get {ps : List (Key × PV)} {qs : List (Key × V)} (r : RK K G ι ps qs) (k : Key) : match kget ps k, valV qs k with
    | some x, some v => RV K G ι x v
    | none, none => True
    | _, _ => False := by
  unfold RK at r
  induction r with
  | nil => exact True.intro
  | @cons p q ps qs h t ih =>
    by_cases e : p.1 = k
    · have e' : q.1 = k := h.1.symm.trans e
      have a : kget (p :: ps) k = some p.2 := by simp [kget, List.find?_cons, e]
      rw [a, valV_pos e']; exact h.2
    · have e' : ¬ q.1 = k := fun z => e (h.1.trans z)
      have a : kget (p :: ps) k = kget ps k := by simp [kget, List.find?_cons, e]
      rw [a, valV_neg e']; exact ih
theorem RK.at {ps : List (Key × PV)} {qs : List (Key × V)} (r : RK K G ι ps qs) {k : Key} {x : PV} (e : kget ps k = some x) : ∃ v, valV qs k = some v ∧ RV K G ι x v := by
  have q := r.get k
  rw [e] at q
  cases e2 : valV qs k with
  | none => rw [e2] at q; exact q.elim
  | some v => rw [e2] at q; exact ⟨v, rfl, q⟩
theorem RK.none {ps : List (Key × PV)} {qs : List (Key × V)} (r : RK K G ι ps qs) {k : Key} (e : kget ps k = none) : valV qs k = none := by
  have q := r.get k
  rw [e] at q
  cases e2 : valV qs k with
  | none => rfl
  | some v => rw [e2] at q; exact q.elim
theorem RK.some {ps : List (Key × PV)} {qs : List (Key × V)} (r : RK K G ι ps qs) {k : Key} : (kget ps k).isSome = (valV qs k).isSome := by
  cases e : kget ps k with
  | none => rw [r.none e]; rfl
  | some x =>
    obtain ⟨v, e2, _⟩ := r.at e
    rw [e2]; rfl
theorem RK.any {ps : List (Key × PV)} {qs : List (Key × V)} (r : RK K G ι ps qs) (k : Key) : (ps.any fun p => decide (p.1 = k)) = qs.any fun p => decide (p.1 = k) := by
  unfold RK at r
  induction r with
  | nil => rfl
  | cons h t ih => rw [List.any_cons, List.any_cons, ih, h.1]
theorem RK.repl {ps : List (Key × PV)} {qs : List (Key × V)} (r : RK K G ι ps qs) (k : Key) {x : PV} {v : V} (rx : RV K G ι x v) :
    RK K G ι (ps.map fun p => if p.1 = k then (p.1, x) else p) (qs.map fun p => if p.1 = k then (p.1, v) else p) := by
  unfold RK at r ⊢
  induction r with
  | nil => exact .nil
  | @cons p q ps qs h t ih =>
    rw [List.map_cons, List.map_cons]
    refine .cons ?_ ih
    by_cases e : p.1 = k
    · rw [if_pos e, if_pos (h.1.symm.trans e)]; exact ⟨h.1, rx⟩
    · rw [if_neg e, if_neg fun z => e (h.1.trans z)]; exact h
theorem RK.snoc {ps : List (Key × PV)} {qs : List (Key × V)} (r : RK K G ι ps qs) {k : Key} {x : PV} {v : V} (rx : RV K G ι x v) : RK K G ι (ps ++ [(k, x)]) (qs ++ [(k, v)]) := Paired.snoc r ⟨rfl, rx⟩
theorem RK.put {ps : List (Key × PV)} {qs : List (Key × V)} (r : RK K G ι ps qs) (k : Key) {x : PV} {v : V} (rx : RV K G ι x v) : RK K G ι (kput ps k x) (putK qs k v) := by
  unfold kput putK
  rw [r.any k]
  split
  · exact r.repl k rx
  · exact r.snoc rx
theorem RK.drop {ps : List (Key × PV)} {qs : List (Key × V)} (r : RK K G ι ps qs) (k : Key) : RK K G ι (kdrop ps k) (dropK qs k) := by
  unfold RK at r ⊢
  unfold kdrop dropK
  induction r with
  | nil => exact .nil
  | @cons p q ps qs h t ih =>
    rw [List.filter_cons, List.filter_cons]
    by_cases e : p.1 = k
    · rw [if_neg (by simp [e]), if_neg (by simp [h.1.symm.trans e])]; exact ih
    · rw [if_pos (by simp [e]), if_pos (by simp [show ¬ q.1 = k from fun z => e (h.1.trans z)])]; exact .cons h ih
theorem RK.merge {more : List (Key × PV)} {mv : List (Key × V)} (m : RK K G ι more mv) : ∀ {ps : List (Key × PV)} {qs : List (Key × V)}, RK K G ι ps qs → RK K G ι (kmerge ps more) (mergeK qs mv) := by
  unfold RK at m
  induction m with
  | nil => exact fun r => r
  | @cons p q pr qr h _ ih =>
    intro ps qs r
    show RK K G ι (kmerge (kput ps p.1 p.2) pr) (mergeK (putK qs q.1 q.2) qr)
    rw [← h.1]
    exact ih (r.put p.1 h.2)
theorem RK.mono {G' : Hp} {ι' : List Addr} (hs : Up G G') (hp : Pre ι ι') {ps : List (Key × PV)} {qs : List (Key × V)} (r : RK K G ι ps qs) : RK K G' ι' ps qs := rk_of r.keys (r.vals.mono hs hp)
theorem RK.toO {ps : List (Key × PV)} {qs : List (Key × V)} (r : RK K G ι ps qs) : RO K G ι (.dic ps) (Option.some (HO.dK qs)) := .dic r.keys r.vals
/-- a dict's entries, in the layer's heap -/
theorem ditems_of (R : HR K Z G ι h H) {p : PV} {v : V} {kvs : List (Key × PV)} (r : RV K G ι p v) (e : ditems h p = some kvs) : ∃ a qs, v = .ref a ∧ Rd H a (.dK qs) ∧ RK K G ι kvs qs := by
  cases r with
  | @dic a ks xs qs hd hk rs =>
    have e' : ks.zip xs = kvs := Option.some.inj e
    refine ⟨_, qs, rfl, rd_same R.sub hd, ?_⟩
    have hl : ks.length = xs.length := by rw [hk, rs.length, List.length_map, List.length_map]
    rw [← e']
    refine rk_of ?_ ?_
    · rw [List.map_fst_zip (by omega), hk]
    · rw [List.map_snd_zip (by omega)]; exact rs
  | @ref n a hn =>
    unfold ditems at e
    obtain ⟨o, ho, ro⟩ := R.at hn
    simp only [ho] at e
    generalize hH : H a = u at ro
    cases ro with
    | lst _ => cases e
    | dic hk rs => cases e; exact ⟨a, _, rfl, .inl hH, rk_of hk rs⟩
    | fdic hk rs => cases e; exact ⟨a, _, rfl, .inr ⟨_, hH⟩, rk_of hk rs⟩
    | ins _ _ _ => cases e
  | _ => cases e
theorem keyV {x : PV} {v : V} {k : Key} (r : RV K G ι x v) (e : keyOf x = some k) : v = kV k := by
  cases r <;> first | (cases e; rfl) | cases e
/-- a new list is told -/
theorem mk_lst (R : HR K Z G ι h H) {r : Bool} {xs : List PV} {vs : List V} (rs : RVs K G ι xs vs) (p : RP exc K (rV K) Z G ι H (mkLst r xs h) Q E) : ∀ a, H a = none → Q (.ref a) (upd H a (.lst vs)) := by
  intro a ha
  have ga := R.gnone ha
  have hz : ∀ z ∈ Z, upd H a (.lst vs) z = H z := fun z hz => upd_ne fun e => R.freshZ ha (e ▸ hz)
  cases r with
  | true =>
    have p' : RP exc K (rV K) Z G ι H (.ok (.ref h.length) (h ++ [.lst xs])) Q E := p
    refine p' G (ι ++ [a]) _ _ ⟨Up.refl _, Pre.append _ _, R.alloc ha (.lst (rs.mono (Up.refl _) (Pre.append _ _))), hz⟩ (.ref ?_)
    rw [← R.len]; simp
  | false =>
    have p' : RP exc K (rV K) Z G ι H (.ok (.lst xs) h) Q E := p
    exact p' (upd G a (.lst vs)) ι _ _ ⟨same_upd ga, Pre.refl _, R.laid ha, hz⟩ (.lst (.inl upd_same) (rs.mono (same_upd ga) (Pre.refl _)))
/-- a new tuple -/
theorem mk_tup (R : HR K Z G ι h H) {xs : List PV} {vs : List V} (rs : RVs K G ι xs vs) (p : RP exc K (rV K) Z G ι H (.ok (.tup xs) h) Q E) : NewT vs H Q := by
  intro a o ha ho
  have ga := R.gnone ha
  have hz : ∀ z ∈ Z, upd H a (.frz o (.tup vs)) z = H z := fun z hz => upd_ne fun e => R.freshZ ha (e ▸ hz)
  exact p (upd G a (.frz o (.tup vs))) ι _ _ ⟨same_upd ga, Pre.refl _, R.laid ha, hz⟩ (.tup (.inl ⟨o, upd_same, ho⟩) (rs.mono (same_upd ga) (Pre.refl _)))

/-- what the layer's rule for an operator must give, for a function of the small language -/
def OpS (exc : List Str) (K : Wr) (f : PV → PV → MH → Res PV) (r : R2) : Prop :=
  ∀ (Z : List Addr) (G : Hp) (ι : List Addr) (h : MH) (H : Hp) (x y : PV) (vx vy : V) (Q : VK) (E : XK), HR K Z G ι h H → RV K G ι x vx → RV K G ι y vy → RP exc K (rV K) Z G ι H (f x y h) Q E → r vx vy H Q
theorem Rd.len {X : Cx} {pins : List (Addr × Obj)} {σ : L2.St} {s : Shared} (I : Inv X pins σ H s) {a : Addr} {xs : List V} (h : Rd H a (.lst xs)) : xs.length ≤ sizeLine := (inv_lstR I h).1
def rAddAll (K : PySem.W.Frag) : R2 := fun x y H Q => rI0 (fun i j => .int (i + j)) x y H Q ∨ (∃ i j, x = .str i ∧ y = .str j ∧ i.length + j.length ≤ sizeLine ∧ Q (.str (i ++ j)) H) ∨ rCatN K x y H Q ∨ rCatR x y H Q
theorem op_addAll {X : Cx} : OpR X (binaryOp .Add) (rAddAll X.K) := op_add.or (op_add_str.or (op_catN.or op_catR))
theorem RVs.isNil {xs : List PV} {vs : List V} (r : RVs K G ι xs vs) : vs = [] ↔ xs = [] := by
  cases r with
  | nil => simp
  | cons _ _ => simp
/-- a list's items, in the layer's heap -/
theorem litems_of (R : HR K Z G ι h H) {p : PV} {v : V} {xs : List PV} (r : RV K G ι p v) (e : litems h p = some xs) : ∃ a vs, v = .ref a ∧ Rd H a (.lst vs) ∧ RVs K G ι xs vs := by
  cases r with
  | lst hs rs => cases e; exact ⟨_, _, rfl, rd_same R.sub hs, rs⟩
  | @ref n a hn =>
    unfold litems at e
    obtain ⟨o, ho, ro⟩ := R.at hn
    simp only [ho] at e
    cases o with
    | lst ys =>
      cases e
      generalize hH : H a = u at ro
      cases ro with
      | lst rs => exact ⟨_, _, rfl, .inl hH, rs⟩
    | dic _ => cases e
    | fdic _ => cases e
    | ins _ _ => cases e
  | _ => cases e
theorem ops_add {r : Bool} : OpS exc K (binop .add r) (rAddAll K.K) := by
  intro Z G ι h H x y vx vy Q E R rx ry p
  replace p : RP exc K (rV K) Z G ι H (addop r x y h) Q E := p
  unfold addop at p
  split at p
  · rename_i i j
    rw [rx.int_inv, ry.int_inv]
    exact .inl ⟨i, j, rfl, rfl, RP.ok_here p R (.int _)⟩
  · rename_i i j
    rw [rx.str_inv, ry.str_inv]
    split at p
    · rename_i hz
      exact .inr (.inl ⟨i, j, rfl, rfl, hz, RP.ok_here p R (.str _)⟩)
    · exact p.elim
  · rename_i i j
    split at p
    · rename_i hz
      obtain ⟨a, vs, rfl, h1, r1⟩ := rx.tup_inv
      obtain ⟨b, ws, rfl, h2, r2⟩ := ry.tup_inv
      refine .inr (.inr (.inl ⟨a, b, vs, ws, rfl, rfl, Same.seqT R.sub h1.sqT, Same.seqT R.sub h2.sqT, by rw [← r1.length, ← r2.length]; exact hz, fun e => ?_, fun _ e => ?_, fun _ _ => mk_tup R (r1.append r2) p⟩))
      · rw [r1.isNil] at e
        subst e
        exact RP.ok_here p R (.tup h2 r2)
      · rw [r2.isNil] at e
        subst e
        rw [List.append_nil] at p
        exact RP.ok_here p R (.tup h1 r1)
    · exact p.elim
  · split at p
    · rename_i e1 e2
      split at p
      · rename_i hz
        obtain ⟨a, vs, rfl, h1, r1⟩ := litems_of R rx e1
        obtain ⟨b, ws, rfl, h2, r2⟩ := litems_of R ry e2
        exact .inr (.inr (.inr ⟨a, b, vs, ws, rfl, rfl, h1, h2, by rw [← r1.length, ← r2.length]; exact hz, mk_lst R (r1.append r2) p⟩))
      · exact p.elim
    · exact p.elim
theorem ops_sub {r : Bool} : OpS exc K (binop .sub r) (rI0 fun i j => .int (i - j)) := by
  intro Z G ι h H x y vx vy Q E R rx ry p
  replace p : RP exc K (rV K) Z G ι H (subop x y h) Q E := p
  unfold subop at p
  split at p
  · rename_i i j
    rw [rx.int_inv, ry.int_inv]
    exact ⟨i, j, rfl, rfl, RP.ok_here p R (.int _)⟩
  · exact p.elim
/-- * of two factors of together less than two million bits (a script's own numbers have up to 2^20) -/
def CMulX (i j : Int) : Prop := i.natAbs.log2 + j.natAbs.log2 < 2000000
theorem CMulX.ok {i j : Int} (h : CMulX i j) : IntMulOk i j := by
  have b : ∀ x : Int, Builtin.Int.intBits x ≤ x.natAbs.log2 + 1 := fun x => by
    unfold Builtin.Int.intBits
    split <;> omega
  have h1 := b i
  have h2 := b j
  have h3 : i.natAbs.log2 + j.natAbs.log2 < 2000000 := h
  have e : bitsLine = 134217728 := by decide
  unfold IntMulOk
  intro z
  rw [Bool.and_eq_true] at z
  have z2 := z.2
  unfold Builtin.Int.intTooBig at z2
  have z3 := of_decide_eq_true z2
  rw [e] at z3
  omega
theorem op_mulX {X : Cx} : OpR X (binaryOp .Mult) (rI CMulX fun i j => .int (i * j)) := opI fun _ _ _ _ _ _ _ hc q => mul_int q hc.ok
def rMulAll : R2 := fun x y H Q => rI CMulX (fun i j => .int (i * j)) x y H Q ∨ rRepR x y H Q ∨ rRepS x y H Q
theorem op_mulAll {X : Cx} : OpR X (binaryOp .Mult) rMulAll := op_mulX.or (op_repR.or op_repS)
theorem ops_mul {r : Bool} : OpS exc K (binop .mul r) rMulAll := by
  intro Z G ι h H x y vx vy Q E R rx ry p
  replace p : RP exc K (rV K) Z G ι H (mulop r x y h) Q E := p
  unfold mulop at p
  split at p
  · rename_i i j
    rw [rx.int_inv, ry.int_inv]
    split at p
    · rename_i hf
      exact .inl ⟨i, j, rfl, rfl, hf, RP.ok_here p R (.int _)⟩
    · exact p.elim
  · rename_i z k
    rw [rx.str_inv, ry.int_inv]
    split at p
    · rename_i hz
      exact .inr (.inr ⟨z, k, rfl, rfl, hz.1, hz.2.1, hz.2.2, RP.ok_here p R (.str _)⟩)
    · exact p.elim
  · rename_i k _ _
    rw [ry.int_inv]
    split at p
    · rename_i e1
      split at p
      · rename_i hz
        obtain ⟨a, vs, rfl, h1, r1⟩ := litems_of R rx e1
        exact .inr (.inl ⟨a, k, vs, rfl, rfl, h1, hz.1, hz.2.1, by rw [← r1.length]; exact hz.2.2, mk_lst R (r1.rep _) p⟩)
      · exact p.elim
    · exact p.elim
  · exact p.elim
def CDivF (_ j : Int) : Prop := j ≠ 0 ∧ j.natAbs.log2 < 9000
theorem op_fdivF {X : Cx} : OpR X (binaryOp .FloorDiv) (rI CDivF fun i j => .int (i.fdiv j)) := opI fun i j _ _ _ _ _ hc q => floordiv_int hc.1 q (.inl (PyProof.noPylong_of_log2 hc.2))
theorem ops_div {r : Bool} : OpS exc K (binop .fdiv r) (rI CDivF fun i j => .int (i.fdiv j)) := by
  intro Z G ι h H x y vx vy Q E R rx ry p
  replace p : RP exc K (rV K) Z G ι H (divop x y h) Q E := p
  unfold divop at p
  split at p
  · rename_i i j
    rw [rx.int_inv, ry.int_inv]
    split at p
    · rename_i hf
      exact ⟨i, j, rfl, rfl, hf, RP.ok_here p R (.int _)⟩
    · exact p.elim
  · exact p.elim
theorem ops_mod {r : Bool} : OpS exc K (binop .mod r) (rI (fun _ j => j ≠ 0) fun i j => .int (i.fmod j)) := by
  intro Z G ι h H x y vx vy Q E R rx ry p
  replace p : RP exc K (rV K) Z G ι H (modop x y h) Q E := p
  unfold modop at p
  split at p
  · rename_i i j
    rw [rx.int_inv, ry.int_inv]
    split at p
    · rename_i hf
      exact ⟨i, j, rfl, rfl, hf, RP.ok_here p R (.int _)⟩
    · exact p.elim
  · exact p.elim
/-- a base of at most 200 bits -/
def CPw (i j : Int) : Prop := 0 ≤ j ∧ j ≤ 1000 ∧ i.natAbs < 2 ^ 200
theorem op_powW {X : Cx} : OpR X (binaryOp .Pow) (rI CPw fun i j => .int (i ^ j.toNat)) := opI fun i j _ _ _ _ _ hc q => by
  refine pow_int hc.1 ?_ q
  have hb : Builtin.Int.intBits i ≤ 200 := intBits_le hc.2.2
  have h1 : (Builtin.Int.intBits i : Int) * j ≤ 200 * j := Int.mul_le_mul_of_nonneg_right (by omega) hc.1
  have h2 := hc.2.1
  omega
theorem ops_pow {r : Bool} : OpS exc K (binop .pow r) (rI CPw fun i j => .int (i ^ j.toNat)) := by
  intro Z G ι h H x y vx vy Q E R rx ry p
  replace p : RP exc K (rV K) Z G ι H (powop x y h) Q E := p
  unfold powop at p
  split at p
  · rename_i i j
    rw [rx.int_inv, ry.int_inv]
    split at p
    · rename_i hf
      exact ⟨i, j, rfl, rfl, hf, RP.ok_here p R (.int _)⟩
    · exact p.elim
  · exact p.elim

/-! ### comparisons -/
theorem scal_of {x y : PV} {vx vy : V} (rx : RV K G ι x vx) (ry : RV K G ι y vy) (hs : scalP x y = true) : scal vx vy = true ∧ decide (vx = vy) = eqF x y := by
  cases rx <;> cases ry <;> first | (exact absurd (show false = true from hs) Bool.false_ne_true) | (refine ⟨rfl, ?_⟩; first | rfl | exact dec_int | exact dec_bl | exact dec_str | simp [eqF])
mutual
theorem dp_of {rd : Nat → Option PyData} (hs : Same G H) (hrd : ∀ n a d, ι[n]? = some a → rd n = some d → Dp K.K H (.ref a) d) : ∀ {x : PV} {v : V} {d : PyData}, RV K G ι x v → toD rd x = some d → Dp K.K H v d
  | _, _, _, .non, e => by cases e; exact .non
  | _, _, _, .bl b, e => by cases e; exact .bl b
  | _, _, _, .int i, e => by cases e; exact .int i
  | _, _, _, .str x, e => by cases e; exact .str x
  | _, _, _, .tup (xs := xs) h1 r, e => by
    unfold toD at e
    cases q : toDs rd xs with
    | none => rw [q] at e; cases e
    | some ds => rw [q] at e; cases e; exact .tup (Same.seqT hs h1.sqT) (dps_of hs hrd r q)
  | _, _, _, .lst (xs := xs) h1 r, e => by
    unfold toD at e
    cases q : toDs rd xs with
    | none => rw [q] at e; cases e
    | some ds => rw [q] at e; cases e; exact .lst (.inl (rd_same hs h1)) (dps_of hs hrd r q)
  | _, _, _, .dic _ _ _, e => by cases e
  | _, _, _, .ref h1, e => hrd _ _ _ h1 e
  | _, _, _, .exn _ _ _ _, e => by cases e
  | _, _, _, .fn _, e => by cases e
theorem dps_of {rd : Nat → Option PyData} (hs : Same G H) (hrd : ∀ n a d, ι[n]? = some a → rd n = some d → Dp K.K H (.ref a) d) : ∀ {xs : List PV} {vs : List V} {ds : List PyData}, RVs K G ι xs vs → toDs rd xs = some ds → DpAll K.K H vs ds
  | _, _, _, .nil, e => by cases e; exact .nil
  | _, _, _, .cons (x := x) (xs := xs) r t, e => by
    unfold toDs at e
    split at e
    · rename_i q1 q2
      cases e
      exact .cons (dp_of hs hrd r q1) (dps_of hs hrd t q2)
    · cases e
end
theorem rd0_ok (R : HR K Z G ι h H) : ∀ n a d, ι[n]? = some a → rd0 h n = some d → Dp K.K H (.ref a) d := by
  intro n a d hn e
  unfold rd0 at e
  obtain ⟨o, ho, ro⟩ := R.at hn
  rw [ho] at e
  cases o with
  | lst ys =>
    generalize hH : H a = u at ro
    cases ro with
    | lst rs =>
      simp only at e
      cases q : toDs (fun _ => none) ys with
      | none => rw [q] at e; cases e
      | some ds =>
        rw [q] at e; cases e
        exact .lst (.inl (.inl hH)) (dps_of R.sub (fun _ _ _ _ z => by cases z) rs q)
  | dic _ => cases e
  | fdic _ => cases e
  | ins _ _ => cases e
theorem rd1_ok (R : HR K Z G ι h H) : ∀ n a d, ι[n]? = some a → rd1 h n = some d → Dp K.K H (.ref a) d := by
  intro n a d hn e
  unfold rd1 at e
  obtain ⟨o, ho, ro⟩ := R.at hn
  rw [ho] at e
  cases o with
  | lst ys =>
    generalize hH : H a = u at ro
    cases ro with
    | lst rs =>
      simp only at e
      cases q : toDs (rd0 h) ys with
      | none => rw [q] at e; cases e
      | some ds =>
        rw [q] at e; cases e
        exact .lst (.inl (.inl hH)) (dps_of R.sub (rd0_ok R) rs q)
  | dic _ => cases e
  | fdic _ => cases e
  | ins _ _ => cases e
def rEqAll (K : PySem.W.Frag) : R2 := fun x y H Q => rEq x y H Q ∨ rEqD K x y H Q
def rNeAll (K : PySem.W.Frag) : R2 := fun x y H Q => rNe x y H Q ∨ rNeD K x y H Q
theorem op_eqAll {X : Cx} (hu : X.A.units + 64 < cLine) : OpR X (compareOp .Eq) (rEqAll X.K) := op_eq.or (op_eqD hu)
theorem op_neAll {X : Cx} (hu : X.A.units + 64 < cLine) : OpR X (compareOp .NotEq) (rNeAll X.K) := op_ne.or (op_neD hu)
/-- a comparison as a function of the small language -/
def cmpR (op : Co) : PV → PV → MH → Res PV := fun x y h => ofB (cmpop op x y h) h
theorem ops_eq : OpS exc K (cmpR .eq) (rEqAll K.K) := by
  intro Z G ι h H x y vx vy Q E R rx ry p
  replace p : RP exc K (rV K) Z G ι H (ofB (peq h x y) h) Q E := p
  unfold peq at p
  split at p
  · rename_i hs
    obtain ⟨h1, h2⟩ := scal_of rx ry hs
    exact .inl ⟨h1, by rw [h2]; exact RP.ok_here p R (.bl _)⟩
  · unfold peqD at p
    split at p
    · rename_i d e q1 q2
      split at p
      · rename_i hz
        rw [Bool.and_eq_true] at hz
        exact .inr ⟨d, e, dp_of R.sub (rd1_ok R) rx q1, dp_of R.sub (rd1_ok R) ry q2, hz.1, hz.2, RP.ok_here p R (.bl _)⟩
      · exact p.elim
    · exact p.elim
theorem ops_ne : OpS exc K (cmpR .ne) (rNeAll K.K) := by
  intro Z G ι h H x y vx vy Q E R rx ry p
  replace p : RP exc K (rV K) Z G ι H (ofB ((peq h x y).map (!·)) h) Q E := p
  unfold peq at p
  split at p
  · rename_i hs
    obtain ⟨h1, h2⟩ := scal_of rx ry hs
    exact .inl ⟨h1, by rw [h2]; exact RP.ok_here p R (.bl _)⟩
  · unfold peqD at p
    split at p
    · rename_i d e q1 q2
      split at p
      · rename_i hz
        rw [Bool.and_eq_true] at hz
        exact .inr ⟨d, e, dp_of R.sub (rd1_ok R) rx q1, dp_of R.sub (rd1_ok R) ry q2, hz.1, hz.2, RP.ok_here p R (.bl _)⟩
      · exact p.elim
    · exact p.elim
def rLtAll : R2 := fun x y H Q => rI0 (fun i j => .bl (decide (i < j))) x y H Q ∨ ∃ i j, x = .str i ∧ y = .str j ∧ Q (.bl (decide (i.cps.toList < j.cps.toList))) H
def rLeAll : R2 := fun x y H Q => rI0 (fun i j => .bl (decide (i ≤ j))) x y H Q ∨ ∃ i j, x = .str i ∧ y = .str j ∧ Q (.bl (!decide (j.cps.toList < i.cps.toList))) H
def rGtAll : R2 := fun x y H Q => rI0 (fun i j => .bl (decide (j < i))) x y H Q ∨ ∃ i j, x = .str i ∧ y = .str j ∧ Q (.bl (decide (j.cps.toList < i.cps.toList))) H
def rGeAll : R2 := fun x y H Q => rI0 (fun i j => .bl (decide (j ≤ i))) x y H Q ∨ ∃ i j, x = .str i ∧ y = .str j ∧ Q (.bl (!decide (i.cps.toList < j.cps.toList))) H
theorem op_ltAll {X : Cx} : OpR X (compareOp .Lt) rLtAll := op_lt.or op_lt_str
theorem op_leAll {X : Cx} : OpR X (compareOp .LtE) rLeAll := op_le.or op_le_str
theorem op_gtAll {X : Cx} : OpR X (compareOp .Gt) rGtAll := op_gt.or op_gt_str
theorem op_geAll {X : Cx} : OpR X (compareOp .GtE) rGeAll := op_ge.or op_ge_str
theorem ops_lt : OpS exc K (cmpR .lt) rLtAll := by
  intro Z G ι h H x y vx vy Q E R rx ry p
  replace p : RP exc K (rV K) Z G ι H (ofB (ltop x y) h) Q E := p
  unfold ltop at p
  split at p
  · rename_i i j
    rw [rx.int_inv, ry.int_inv]
    exact .inl ⟨i, j, rfl, rfl, RP.ok_here p R (.bl _)⟩
  · rename_i i j
    rw [rx.str_inv, ry.str_inv]
    exact .inr ⟨i, j, rfl, rfl, RP.ok_here p R (.bl _)⟩
  · exact p.elim
theorem ops_le : OpS exc K (cmpR .le) rLeAll := by
  intro Z G ι h H x y vx vy Q E R rx ry p
  replace p : RP exc K (rV K) Z G ι H (ofB (leop x y) h) Q E := p
  unfold leop at p
  split at p
  · rename_i i j
    rw [rx.int_inv, ry.int_inv]
    exact .inl ⟨i, j, rfl, rfl, RP.ok_here p R (.bl _)⟩
  · rename_i i j
    rw [rx.str_inv, ry.str_inv]
    exact .inr ⟨i, j, rfl, rfl, RP.ok_here p R (.bl _)⟩
  · exact p.elim
theorem ops_gt : OpS exc K (cmpR .gt) rGtAll := by
  intro Z G ι h H x y vx vy Q E R rx ry p
  replace p : RP exc K (rV K) Z G ι H (ofB (ltop y x) h) Q E := p
  unfold ltop at p
  split at p
  · rename_i i j
    rw [rx.int_inv, ry.int_inv]
    exact .inl ⟨j, i, rfl, rfl, RP.ok_here p R (.bl _)⟩
  · rename_i i j
    rw [rx.str_inv, ry.str_inv]
    exact .inr ⟨j, i, rfl, rfl, RP.ok_here p R (.bl _)⟩
  · exact p.elim
theorem ops_ge : OpS exc K (cmpR .ge) rGeAll := by
  intro Z G ι h H x y vx vy Q E R rx ry p
  replace p : RP exc K (rV K) Z G ι H (ofB (leop y x) h) Q E := p
  unfold leop at p
  split at p
  · rename_i i j
    rw [rx.int_inv, ry.int_inv]
    exact .inl ⟨j, i, rfl, rfl, RP.ok_here p R (.bl _)⟩
  · rename_i i j
    rw [rx.str_inv, ry.str_inv]
    exact .inr ⟨j, i, rfl, rfl, RP.ok_here p R (.bl _)⟩
  · exact p.elim
theorem isNon_of {x : PV} {v : V} (r : RV K G ι x v) : decide (v = .non) = isNon x := by cases r <;> simp [isNon]
theorem isNon_eq {x : PV} {v : V} (r : RV K G ι x v) (e : isNon x = true) : v = .non := by
  cases r <;> first | rfl | cases e
theorem ops_isN : OpS exc K (cmpR .isN) (fun x y H Q => y = .non ∧ Q (.bl (decide (x = .non))) H) := by
  intro Z G ι h H x y vx vy Q E R rx ry p
  replace p : RP exc K (rV K) Z G ι H (ofB (if isNon y then some (isNon x) else none) h) Q E := p
  split at p
  · rename_i hy
    exact ⟨isNon_eq ry hy, by rw [isNon_of rx]; exact RP.ok_here p R (.bl _)⟩
  · exact p.elim
theorem ops_isntN : OpS exc K (cmpR .isntN) (fun x y H Q => y = .non ∧ Q (.bl (!decide (x = .non))) H) := by
  intro Z G ι h H x y vx vy Q E R rx ry p
  replace p : RP exc K (rV K) Z G ι H (ofB (if isNon y then some (!isNon x) else none) h) Q E := p
  split at p
  · rename_i hy
    exact ⟨isNon_eq ry hy, by rw [isNon_of rx]; exact RP.ok_here p R (.bl _)⟩
  · exact p.elim
theorem flat_of {x : PV} {v : V} (r : RV K G ι x v) (e : flat x = true) : flatV v = true := by
  cases r <;> first | rfl | cases e
theorem flats_of : ∀ {xs : List PV} {vs : List V}, RVs K G ι xs vs → xs.all flat = true → vs.all flatV = true
  | _, _, .nil, _ => rfl
  | _, _, .cons r t, e => by
    rw [List.all_cons, Bool.and_eq_true] at e ⊢
    exact ⟨flat_of r e.1, flats_of t e.2⟩
theorem eqF_of {x y : PV} {vx vy : V} (rx : RV K G ι x vx) (ry : RV K G ι y vy) (fx : flat x = true) (fy : flat y = true) : eqV vx vy = eqF x y := by
  cases rx <;> first | cases fx | skip
  all_goals (cases ry <;> first | rfl | cases fy)
theorem inV_of {x : PV} {vx : V} (rx : RV K G ι x vx) (fx : flat x = true) : ∀ {xs : List PV} {vs : List V}, RVs K G ι xs vs → xs.all flat = true → inV vx vs = xs.any fun y => eqF y x
  | _, _, .nil, _ => rfl
  | _, _, .cons r t, e => by
    rw [List.all_cons, Bool.and_eq_true] at e
    unfold inV
    rw [List.any_cons, List.any_cons, eqF_of r rx e.1 fx]
    have := inV_of rx fx t e.2
    unfold inV at this
    rw [this]
def rInAll (K : PySem.W.Frag) : R2 := fun x y H Q => (∃ i j, x = .str i ∧ y = .str j ∧ Q (.bl (!(Builtin.Str.occurrences j i 0 j.length 1).isEmpty)) H) ∨ rIn K false x y H Q ∨ ∃ a o, y = .ref a ∧ DGet H a x o ∧ Q (.bl o.isSome) H
def rNinAll (K : PySem.W.Frag) : R2 := fun x y H Q => (∃ i j, x = .str i ∧ y = .str j ∧ Q (.bl (!(!(Builtin.Str.occurrences j i 0 j.length 1).isEmpty))) H) ∨ rIn K true x y H Q ∨ ∃ a o, y = .ref a ∧ DGet H a x o ∧ Q (.bl (!o.isSome)) H
theorem op_inD {X : Cx} (hu : X.A.units + 1 < cLine) : OpR X (compareOp .In) (fun x y H Q => ∃ a o, y = .ref a ∧ DGet H a x o ∧ Q (.bl o.isSome) H) := by
  intro pins s σ H x y v u Q I rx ry h
  obtain ⟨a, o, rfl, g, q⟩ := h
  obtain rfl : u = Value.ref a := ry
  exact d_in hu I g rx fun s' I' => ⟨.bl o.isSome, H, I', rfl, q⟩
theorem op_ninD {X : Cx} (hu : X.A.units + 1 < cLine) : OpR X (compareOp .NotIn) (fun x y H Q => ∃ a o, y = .ref a ∧ DGet H a x o ∧ Q (.bl (!o.isSome)) H) := by
  intro pins s σ H x y v u Q I rx ry h
  obtain ⟨a, o, rfl, g, q⟩ := h
  obtain rfl : u = Value.ref a := ry
  exact d_notIn hu I g rx fun s' I' => ⟨.bl (!o.isSome), H, I', rfl, q⟩
theorem op_inAll {X : Cx} (hu : X.A.units + 64 < cLine) : OpR X (compareOp .In) (rInAll X.K) := op_in_str.or (op_in_seq.or (op_inD (Nat.lt_of_le_of_lt (by omega) hu)))
theorem op_ninAll {X : Cx} (hu : X.A.units + 64 < cLine) : OpR X (compareOp .NotIn) (rNinAll X.K) := op_notin_str.or (op_notIn_seq.or (op_ninD (Nat.lt_of_le_of_lt (by omega) hu)))
theorem ops_in : OpS exc K (cmpR .inn) (rInAll K.K) := by
  intro Z G ι h H x y vx vy Q E R rx ry p
  replace p : RP exc K (rV K) Z G ι H (ofB (inop h x y) h) Q E := p
  unfold inop at p
  split at p
  · rename_i i j
    rw [rx.str_inv, ry.str_inv]
    exact .inl ⟨i, j, rfl, rfl, RP.ok_here p R (.bl _)⟩
  · split at p
    · rename_i xs e1
      unfold inSeq at p
      split at p
      · rename_i hf
        rw [Bool.and_eq_true] at hf
        obtain ⟨a, vs, rfl, hq, rs⟩ := (items_of R ry e1).sq
        refine .inr (.inl ⟨a, vs, rfl, hq, flat_of rx hf.1, flats_of rs hf.2, ?_⟩)
        show Q (.bl (inV vx vs)) H
        rw [inV_of rx hf.1 rs hf.2]
        exact RP.ok_here p R (.bl _)
      · exact p.elim
    · split at p
      · rename_i e1 e2
        obtain ⟨a, vs, rfl, hd, rk⟩ := ditems_of R ry e1
        refine .inr (.inr ⟨a, _, rfl, .inl ⟨vs, _, hd, keyV rx e2, rfl⟩, ?_⟩)
        rw [← rk.some]
        exact RP.ok_here p R (.bl _)
      · exact p.elim
theorem ops_nin : OpS exc K (cmpR .nin) (rNinAll K.K) := by
  intro Z G ι h H x y vx vy Q E R rx ry p
  replace p : RP exc K (rV K) Z G ι H (ofB ((inop h x y).map (!·)) h) Q E := p
  unfold inop at p
  split at p
  · rename_i i j
    rw [rx.str_inv, ry.str_inv]
    exact .inl ⟨i, j, rfl, rfl, RP.ok_here p R (.bl _)⟩
  · split at p
    · rename_i xs e1
      unfold inSeq at p
      split at p
      · rename_i hf
        rw [Bool.and_eq_true] at hf
        obtain ⟨a, vs, rfl, hq, rs⟩ := (items_of R ry e1).sq
        refine .inr (.inl ⟨a, vs, rfl, hq, flat_of rx hf.1, flats_of rs hf.2, ?_⟩)
        show Q (.bl (!inV vx vs)) H
        rw [inV_of rx hf.1 rs hf.2]
        exact RP.ok_here p R (.bl _)
      · exact p.elim
    · split at p
      · rename_i e1 e2
        obtain ⟨a, vs, rfl, hd, rk⟩ := ditems_of R ry e1
        refine .inr (.inr ⟨a, _, rfl, .inl ⟨vs, _, hd, keyV rx e2, rfl⟩, ?_⟩)
        rw [← rk.some]
        exact RP.ok_here p R (.bl _)
      · exact p.elim

/-! ### subscripts, slices -/
theorem atI_of {xs : List PV} {vs : List V} (r : RVs K G ι xs vs) {k : Int} {y : PV} (e : atI xs k = some y) : ∃ v, atI vs k = some v ∧ RV K G ι y v := by
  unfold atI at e ⊢
  rw [← r.length]
  cases q : ixN xs.length k with
  | none => rw [q] at e; cases e
  | some j =>
    rw [q] at e
    exact r.get e
def rIxDk : R2 := fun x y H Q => ∃ a v, x = .ref a ∧ DGet H a y (some v) ∧ Q v H
theorem ix_dk {X : Cx} (hu : X.A.units + 1 < cLine) : IxR X rIxDk := by
  intro value slice pins s σ H x y v u Q I rx ry q hs
  obtain ⟨a, z, rfl, g, q⟩ := q
  obtain rfl : v = Value.ref a := rx
  have hT : s.TypeIs (.ref a) "dict" := dict_typeIs I g
  unfold subscriptTail
  refine wpAny_bind ?_
  rw [getitemInPython_of_ne hT.not_modules]
  refine wpAny_bind (wpAny_specialOf hT PySem.F.slot_dict_getitem.lookup ?_)
  have fin : wpAny (model X.prog X.w) X.A (subscripted slice false (.ref a) u) (fun r s₃ => wpAny (model X.prog X.w) X.A (letTemporaryGo value (.ref a) r >>= fun _ => pure r) (EP X pins σ Q) X.xe s₃) X.xe s := by
    rw [hs]
    exact wpAny_operating (d_getItem hu I g ry fun w' s' I' rw' => wpAny_bind (wpAny_letTemporaryGo (wpAny_pure ⟨z, H, I', rw', q⟩)))
  first
    | exact wpAny_pure (wpAny_bind fin)
    | exact wpAny_bind fin
    | exact wpAny_bind (wpAny_pure (wpAny_bind fin))
def rIxAll (K : PySem.W.Frag) : R2 := fun x y H Q => rIx K x y H Q ∨ rIxDk x y H Q
theorem ix_all {X : Cx} (hu : X.A.units + 64 < cLine) : IxR X (rIxAll X.K) := ix_seq.or (ix_dk (Nat.lt_of_le_of_lt (by omega) hu))
theorem ops_ix : OpS exc K ixop (rIxAll K.K) := by
  intro Z G ι h H x y vx vy Q E R rx ry p
  unfold ixop at p
  split at p
  · rename_i i j
    rw [rx.str_inv, ry.int_inv]
    split at p
    · rename_i hz
      split at p
      · rename_i c e
        exact .inl (.inr (.inr ⟨_, _, c, rfl, rfl, hz, e, RP.ok_here p R (.str _)⟩))
      · exact p.elim
    · exact p.elim
  · split at p
    · rename_i kvs k e1 e2
      split at p
      · rename_i z e3
        obtain ⟨a, qs, rfl, hd, rk⟩ := ditems_of R rx e1
        obtain ⟨v, e4, rv⟩ := rk.at e3
        exact .inr ⟨a, v, rfl, .inl ⟨qs, k, hd, keyV ry e2, e4.symm⟩, RP.ok_here p R rv⟩
      · exact p.elim
    · split at p
      · rename_i xs k e1 _ _
        have hk := ry.int_inv
        split at p
        · rename_i y e2
          cases items_of R rx e1 with
          | tup e hq rs =>
            subst e
            obtain ⟨v, e3, rv⟩ := atI_of rs e2
            exact .inl (.inr (.inl ⟨_, _, _, v, rfl, hk, hq.sqT, e3, RP.ok_here p R rv⟩))
          | lst _ hq rs =>
            obtain ⟨v, e3, rv⟩ := atI_of rs e2
            exact .inl (.inl ⟨_, _, _, v, rfl, hk, .inl hq, e3, RP.ok_here p R rv⟩)
        · exact p.elim
      · exact p.elim
theorem cut_of {xs : List PV} {vs : List V} (r : RVs K G ι xs vs) (lo hi : Option Int) : RVs K G ι (cutP xs lo hi) (cutV vs lo hi) := by
  unfold cutP cutV
  rw [← r.length]
  exact (r.drop _).take _
def rSlAll (K : PySem.W.Frag) : V → Option Int → Option Int → Hp → VK → Prop := fun x lo hi H Q => rSlN K x lo hi H Q ∨ (rSlL K x lo hi H Q ∨ rSlS x lo hi H Q)
theorem sl_all {X : Cx} : SlR X (rSlAll X.K) := sl_tupN.or (sl_list.or sl_str)
theorem ops_sl {r : Bool} (R : HR K Z G ι h H) {x : PV} {vx : V} {lo hi : Option Int} (rx : RV K G ι x vx) (p : RP exc K (rV K) Z G ι H (slop r x lo hi h) Q E) : rSlAll K.K vx lo hi H Q := by
  unfold slop at p
  split at p
  · obtain ⟨a, vs, rfl, h1, r1⟩ := rx.tup_inv
    refine .inl ⟨a, vs, rfl, Same.seqT R.sub h1.sqT, fun e => ?_, fun _ => mk_tup R (cut_of r1 _ _) p⟩
    have ec : ∀ {ys : List PV}, HT.sIx ys.length 0 lo = 0 ∧ HT.sIx ys.length ys.length hi = ys.length → cutP ys lo hi = ys := fun {ys} e => by
      unfold cutP
      rw [e.1, e.2, List.drop_zero, Nat.sub_zero, List.take_length]
    rw [← r1.length] at e
    rw [ec e] at p
    exact RP.ok_here p R (.tup h1 r1)
  · rename_i z
    rw [rx.str_inv]
    split at p
    · rename_i hz
      exact .inr (.inr ⟨z, rfl, hz, RP.ok_here p R (.str _)⟩)
    · exact p.elim
  · split at p
    · rename_i xs e1
      obtain ⟨a, vs, rfl, h1, r1⟩ := litems_of R rx e1
      exact .inr (.inl ⟨a, vs, rfl, .inl h1, mk_lst R (cut_of r1 _ _) p⟩)
    · exact p.elim

/-! ### built-ins -/
theorem allB_of : ∀ {xs : List PV} {vs : List V} {bs : List Bool}, RVs K G ι xs vs → allB xs = some bs → vs = bs.map V.bl
  | _, _, _, .nil, e => by cases e; rfl
  | _, _, _, .cons (x := x) (xs := xs) r t, e => by
    cases x with
    | bl b =>
      unfold allB at e
      cases q : allB xs with
      | none => rw [q] at e; cases e
      | some cs =>
        rw [q] at e; cases e
        rw [r.bl_inv, allB_of t q]; rfl
    | _ => cases e
/-- what the layer's rule for a built-in must give -/
def CallS (exc : List Str) (K : Wr) (f : List PV → MH → Res PV) (r : List V → Hp → VK → Prop) : Prop :=
  ∀ (Z : List Addr) (G : Hp) (ι : List Addr) (h : MH) (H : Hp) (xs : List PV) (vs : List V) (Q : VK) (E : XK), HR K Z G ι h H → RVs K G ι xs vs → RP exc K (rV K) Z G ι H (f xs h) Q E → r vs H Q
theorem one_of {xs : List PV} {vs : List V} {f : PV → MH → Res PV} (r : RVs K G ι xs vs) (p : RP exc K (rV K) Z G ι H (match (motive := List PV → Res PV) xs with | [a] => f a h | _ => .stuck) Q E) : ∃ x v, xs = [x] ∧ vs = [v] ∧ RV K G ι x v ∧ RP exc K (rV K) Z G ι H (f x h) Q E := by
  cases r with
  | nil => exact p.elim
  | cons r t =>
    cases t with
    | nil => exact ⟨_, _, rfl, rfl, r, p⟩
    | cons _ _ => exact p.elim
theorem two_of {xs : List PV} {vs : List V} {f : PV → PV → MH → Res PV} (r : RVs K G ι xs vs) (p : RP exc K (rV K) Z G ι H (match (motive := List PV → Res PV) xs with | [a, b] => f a b h | _ => .stuck) Q E) : ∃ x y v w, xs = [x, y] ∧ vs = [v, w] ∧ RV K G ι x v ∧ RV K G ι y w ∧ RP exc K (rV K) Z G ι H (f x y h) Q E := by
  cases r with
  | nil => exact p.elim
  | cons r t =>
    cases t with
    | nil => exact p.elim
    | cons r2 t2 =>
      cases t2 with
      | nil => exact ⟨_, _, _, _, rfl, rfl, r, r2, p⟩
      | cons _ _ => exact p.elim
def rLenD : List V → Hp → VK → Prop := fun xs H Q => ∃ a kvs, xs = [V.ref a] ∧ Rd H a (.dK kvs) ∧ Q (.int kvs.length) H
theorem call_lenDk {X : Cx} : CallR X (.builtin "len") rLenD := by
  intro pins s σ H xs us Q I r q
  obtain ⟨a, kvs, rfl, hd, q⟩ := q
  obtain ⟨u, rfl, rx⟩ := vals1 r
  obtain rfl : u = Value.ref a := rx
  exact d_len I hd fun t s' I' => ⟨.int kvs.length, H, I', ⟨t, rfl⟩, q⟩
def rLenAll (K : PySem.W.Frag) : List V → Hp → VK → Prop := fun xs H Q => (∃ z, xs = [.str z] ∧ z.length ≤ sizeLine ∧ Q (.int z.length) H) ∨ (∃ p ys, xs = [.ref p] ∧ (SqL K H p ys ∨ SqT K H p ys) ∧ Q (.int ys.length) H) ∨ rLenD xs H Q
theorem call_lenAll {X : Cx} : CallR X (.builtin "len") (rLenAll X.K) := call_len_str.or (call_len_seq.or call_lenDk)
theorem calls_len {r : Bool} : CallS exc K (bltop .len r) (rLenAll K.K) := by
  intro Z G ι h H xs vs Q E R rs p
  obtain ⟨x, v, rfl, rfl, rx, p2⟩ := one_of rs p
  clear p
  have p := p2
  clear p2
  unfold lenop at p
  split at p
  · rename_i z
    rw [rx.str_inv]
    split at p
    · rename_i hz
      exact .inl ⟨z, rfl, hz, RP.ok_here p R (.int _)⟩
    · exact p.elim
  · split at p
    · rename_i ys e1
      obtain ⟨a, vs, rfl, hq, rs⟩ := (items_of R rx e1).sq
      refine .inr (.inl ⟨a, vs, rfl, hq, ?_⟩)
      rw [← rs.length]
      exact RP.ok_here p R (.int _)
    · split at p
      · rename_i kvs e1
        obtain ⟨a, qs, rfl, hd, rk⟩ := ditems_of R rx e1
        refine .inr (.inr ⟨a, qs, rfl, hd, ?_⟩)
        rw [← rk.length]
        exact RP.ok_here p R (.int _)
      · exact p.elim
theorem calls_int1 {f : Int → Int} {x : PV} {v : V} (R : HR K Z G ι h H) (rx : RV K G ι x v) (p : RP exc K (rV K) Z G ι H (int1 f x h) Q E) : ∃ i, v = .int i ∧ Q (.int (f i)) H := by
  unfold int1 at p
  split at p
  · rename_i i
    exact ⟨i, rx.int_inv, RP.ok_here p R (.int _)⟩
  · exact p.elim
theorem calls_int2 {f : Int → Int → Int} {x y : PV} {v w : V} (R : HR K Z G ι h H) (rx : RV K G ι x v) (ry : RV K G ι y w) (p : RP exc K (rV K) Z G ι H (int2 f x y h) Q E) : ∃ i j, v = .int i ∧ w = .int j ∧ Q (.int (f i j)) H := by
  unfold int2 at p
  split at p
  · rename_i i j
    exact ⟨i, j, rx.int_inv, ry.int_inv, RP.ok_here p R (.int _)⟩
  · exact p.elim
theorem calls_abs {r : Bool} : CallS exc K (bltop .abs r) (fun xs H Q => ∃ i, xs = [.int i] ∧ Q (.int (if i < 0 then -i else i)) H) := by
  intro Z G ι h H xs vs Q E R rs p
  obtain ⟨x, v, rfl, rfl, rx, p2⟩ := one_of rs p
  clear p
  have p := p2
  clear p2
  obtain ⟨i, rfl, q⟩ := calls_int1 R rx p
  exact ⟨i, rfl, q⟩
theorem calls_min {r : Bool} : CallS exc K (bltop .min r) (fun xs H Q => ∃ i j, xs = [.int i, .int j] ∧ Q (.int (if j < i then j else i)) H) := by
  intro Z G ι h H xs vs Q E R rs p
  obtain ⟨x, y, v, w, rfl, rfl, rx, ry, p2⟩ := two_of rs p
  clear p
  have p := p2
  clear p2
  obtain ⟨i, j, rfl, rfl, q⟩ := calls_int2 R rx ry p
  exact ⟨i, j, rfl, q⟩
theorem calls_max {r : Bool} : CallS exc K (bltop .max r) (fun xs H Q => ∃ i j, xs = [.int i, .int j] ∧ Q (.int (if j > i then j else i)) H) := by
  intro Z G ι h H xs vs Q E R rs p
  obtain ⟨x, y, v, w, rfl, rfl, rx, ry, p2⟩ := two_of rs p
  clear p
  have p := p2
  clear p2
  obtain ⟨i, j, rfl, rfl, q⟩ := calls_int2 R rx ry p
  exact ⟨i, j, rfl, q⟩
theorem calls_gcd {r : Bool} : CallS exc K (bltop .gcd r) rGcd := by
  intro Z G ι h H xs vs Q E R rs p
  obtain ⟨x, y, v, w, rfl, rfl, rx, ry, p2⟩ := two_of rs p
  clear p
  have p := p2
  clear p2
  obtain ⟨i, j, rfl, rfl, q⟩ := calls_int2 R rx ry p
  exact ⟨i, j, rfl, q⟩
theorem calls_int {r : Bool} : CallS exc K (bltop .int r) (fun xs H Q => (∃ i, xs = [.int i] ∧ Q (.int i) H) ∨ ∃ k, xs = [.bl k] ∧ Q (.int (if k then 1 else 0)) H) := by
  intro Z G ι h H xs vs Q E R rs p
  obtain ⟨x, v, rfl, rfl, rx, p2⟩ := one_of rs p
  clear p
  have p := p2
  clear p2
  unfold intop at p
  split at p
  · rename_i i
    rw [rx.int_inv]
    exact .inl ⟨i, rfl, RP.ok_here p R (.int _)⟩
  · rename_i b
    rw [rx.bl_inv]
    exact .inr ⟨b, rfl, RP.ok_here p R (.int _)⟩
  · exact p.elim
theorem calls_str {r : Bool} : CallS exc K (bltop .str r) (fun xs H Q => ∃ i, xs = [.int i] ∧ i.natAbs.log2 < 1920 ∧ Q (.str (toString i)) H) := by
  intro Z G ι h H xs vs Q E R rs p
  obtain ⟨x, v, rfl, rfl, rx, p2⟩ := one_of rs p
  clear p
  have p : RP exc K (rV K) Z G ι H (strop x h) Q E := p2
  clear p2
  unfold strop at p
  split at p
  · rename_i i
    split at p
    · rename_i hi
      rw [rx.int_inv]
      exact ⟨i, rfl, hi, RP.ok_here p R (.str _)⟩
    · exact p.elim
  · exact p.elim
theorem calls_tuple {r : Bool} : CallS exc K (bltop .tuple r) (rTupN K.K) := by
  intro Z G ι h H xs vs Q E R rs p
  obtain ⟨x, v, rfl, rfl, rx, p2⟩ := one_of rs p
  clear p
  have p := p2
  clear p2
  unfold tupop at p
  split at p
  · rename_i ys e1
    have hi := items_of R rx e1
    cases hi with
    | tup e hq rs' =>
      subst e
      exact ⟨_, _, rfl, .inr ⟨hq.sqT, RP.ok_here p R rx⟩⟩
    | lst _ hq rs' => exact ⟨_, _, rfl, .inl ⟨.inl hq, mk_tup R rs' p⟩⟩
  · exact p.elim
theorem calls_list {r : Bool} : CallS exc K (bltop .list r) (fun xs H Q => ∃ p ys, xs = [.ref p] ∧ (SqL K.K H p ys ∨ SqT K.K H p ys) ∧ ∀ l, H l = none → Q (.ref l) (upd H l (.lst ys))) := by
  intro Z G ι h H xs vs Q E R rs p
  obtain ⟨x, v, rfl, rfl, rx, p2⟩ := one_of rs p
  clear p
  have p := p2
  clear p2
  unfold lstop at p
  split at p
  · rename_i ys e1
    obtain ⟨a, vs, rfl, hq, rs'⟩ := (items_of R rx e1).sq
    exact ⟨a, vs, rfl, hq, mk_lst R rs' p⟩
  · exact p.elim
theorem calls_bools {f : List Bool → Bool} {x : PV} {v : V} (R : HR K Z G ι h H) (rx : RV K G ι x v) (p : RP exc K (rV K) Z G ι H (boolsop f x h) Q E) : ∃ (a : Addr) (bs : List Bool), v = V.ref a ∧ SqL K.K H a (bs.map V.bl) ∧ Q (.bl (f bs)) H := by
  unfold boolsop at p
  split at p
  · rename_i ys e1
    split at p
    · rename_i bs e2
      obtain ⟨a, vs, rfl, hq, rs'⟩ := litems_of R rx e1
      rw [allB_of rs' e2] at hq
      exact ⟨a, bs, rfl, .inl hq, RP.ok_here p R (.bl _)⟩
    · exact p.elim
  · exact p.elim
def rRepr (K : PySem.W.Frag) : List V → Hp → VK → Prop := fun xs H Q => ∃ a d, xs = [.ref a] ∧ Dp K H (.ref a) d ∧ d.hasDict = false ∧ d.showable = true ∧ d.depth ≤ 50 ∧ d.shown.length ≤ sizeLine ∧ Q (.str d.shown) H
theorem cr_repr {X : Cx} (hg : X.A.guards = some []) (hu : X.A.units + 64 < cLine) : CallR X (.builtin "repr") (rRepr X.K) := by
  rintro pins s σ H xs us Q I rx ⟨a, d, rfl, hd, h1, h2, h3, h4, q⟩
  obtain ⟨u, rfl, r⟩ := vals1 rx
  obtain ⟨as, rd⟩ := Dp.reads I d _ u hd r
  obtain rfl : u = Value.ref a := r
  exact repr_of_reads' rd h2 (PyData.noDict_hsm h1) hg (by omega) (fun _ _ e => e) (fun h' u t k => ⟨.str d.shown, H, I.kept k, ⟨u, rfl⟩, q⟩) h4
theorem calls_repr {r : Bool} : CallS exc K (bltop .repr r) (rRepr K.K) := by
  intro Z G ι h H xs vs Q E R rs p
  obtain ⟨x, v, rfl, rfl, rx, p2⟩ := one_of rs p
  clear p
  have p := p2
  clear p2
  replace p : RP exc K (rV K) Z G ι H (repop x h) Q E := p
  unfold repop at p
  split at p
  · rename_i d e1
    split at p
    · rename_i hc
      have hd := dp_of R.sub (rd1_ok R) rx e1
      have hv : ∃ a, v = V.ref a := by
        cases hd with
        | tup _ _ => exact ⟨_, rfl⟩
        | lst _ _ => exact ⟨_, rfl⟩
        | _ => exact absurd hc.1 (by simp [rowD])
      obtain ⟨a, rfl⟩ := hv
      exact ⟨a, d, rfl, hd, hc.2.1, hc.2.2.1, hc.2.2.2.1, hc.2.2.2.2, RP.ok_here p R (.str _)⟩
    · exact p.elim
  · exact p.elim
theorem calls_any {r : Bool} : CallS exc K (bltop .any r) (rAny K.K) := by
  intro Z G ι h H xs vs Q E R rs p
  obtain ⟨x, v, rfl, rfl, rx, p2⟩ := one_of rs p
  clear p
  have p := p2
  clear p2
  obtain ⟨a, bs, rfl, hq, q⟩ := calls_bools R rx p
  exact ⟨a, bs, rfl, hq, q⟩
theorem calls_all {r : Bool} : CallS exc K (bltop .all r) (rAll K.K) := by
  intro Z G ι h H xs vs Q E R rs p
  obtain ⟨x, v, rfl, rfl, rx, p2⟩ := one_of rs p
  clear p
  have p := p2
  clear p2
  obtain ⟨a, bs, rfl, hq, q⟩ := calls_bools R rx p
  exact ⟨a, bs, rfl, hq, q⟩

/-! ### truth -/
theorem tru_of (R : HR K Z G ι h H) {x : PV} {v : V} {b : Bool} (r : RV K G ι x v) (e : truthy h x = some b) : TruV K.K v H b := by
  cases r with
  | non => cases e; rfl
  | bl _ => cases e; rfl
  | int _ => cases e; rfl
  | str z =>
    replace e : (if z.length ≤ sizeLine then some (z.length != 0) else none) = some b := e
    split at e
    · rename_i hz
      cases e
      refine ⟨hz, ?_⟩
      rw [Bool.eq_iff_iff]
      simp
    · cases e
  | tup hs rs =>
    cases e
    refine .inr (.inl ⟨_, Same.seqT R.sub hs.sqT, ?_⟩)
    cases rs <;> rfl
  | lst hs rs =>
    cases e
    refine .inl ⟨_, .inl (rd_same R.sub hs), ?_⟩
    cases rs <;> rfl
  | dic hs hk rs => cases e
  | @ref n a hn =>
    unfold truthy at e
    obtain ⟨o, ho, ro⟩ := R.at hn
    simp only [ho] at e
    generalize hH : H a = u at ro
    cases ro with
    | lst rs =>
      cases e
      refine .inl ⟨_, .inl (.inl hH), ?_⟩
      cases rs <;> rfl
    | dic hk rs => cases e
    | fdic hk rs => cases e
    | ins _ _ _ => cases e
  | exn _ _ _ _ => cases e
  | fn _ => cases e
/-! ### methods that change a list -/
def rExtR : V → List V → Hp → VK → Prop := fun x vs H Q => ∃ l b xs zs, x = .ref l ∧ vs = [.ref b] ∧ H l = some (.lst xs) ∧ Rd H b (.lst zs) ∧ xs.length + zs.length ≤ sizeLine ∧ Q .non (upd H l (.lst (xs ++ zs)))
theorem mt_extR {X : Cx} : MtM X "list.extend" rExtR := by
  intro pins s σ H x vs v us Q I rx rv h
  obtain ⟨l, b, xs, zs, rfl, rfl, hH, hB, hz, q⟩ := h
  cases rx
  obtain ⟨u, rfl, ru⟩ := rv.one
  cases ru
  obtain ⟨z, its, n, r, hl, e⟩ := I.lstM hH
  obtain ⟨z2, its2, n2, r2, hl2, e2⟩ := inv_lstR I hB
  have hsz : its.toArray.size + its2.toArray.size ≤ sizeLine := by rw [List.size_toArray, List.size_toArray]; omega
  have hlong : ¬ (!its.toArray.isEmpty && Builtin.List.listTooLong (its.toArray.size + its2.toArray.size)) = true := by
    rw [notLongL hsz, Bool.and_false]
    exact Bool.false_ne_true
  refine call_meets F.slot_list_extend ⟨_, e, rfl⟩ F.entry_list_extend (F.args_list_extend_2 _ _)
    (AutoSeq1.list_extend_list_list_0 l its.toArray n b its2.toArray n2 hlong (by rw [List.size_toArray]; omega) (by omega)) ⟨e, e2, ?_⟩
  refine ⟨.non, _, I.lset (its' := its ++ its2) hH e (by simp) (r.append r2) ?_, rfl, q⟩
  rw [List.length_append]
  omega
/-- a changing list, in the layer's heap -/
theorem ref_lst (R : HR K Z G ι h H) {n : Nat} {v : V} {xs : List PV} (rx : RV K G ι (.ref n) v) (e : h[n]? = some (.lst xs)) : ∃ a vs, v = .ref a ∧ ι[n]? = some a ∧ H a = some (.lst vs) ∧ RVs K G ι xs vs := by
  obtain ⟨a, rfl, hn⟩ := rx.ref_inv
  have ro := R.obj n a _ hn e
  generalize hH : H a = u at ro
  cases ro with
  | lst rs => exact ⟨a, _, rfl, hn, hH, rs⟩
/-- it is written -/
theorem put_lst (R : HR K Z G ι h H) {n : Nat} {a : Addr} {xs : List PV} {vs ws : List V} (hn : ι[n]? = some a) (hH : H a = some (.lst ws)) (rs : RVs K G ι xs vs) {Q : Hp → Prop} (p : ∀ G' ι' H', Nx K Z G ι H G' ι' (h.set n (.lst xs)) H' → Q H') : Q (upd H a (.lst vs)) :=
  p G ι _ ⟨Up.refl _, Pre.refl _, R.put hn (fun o w z => by rw [hH] at z; cases z) (.lst rs), fun z hz => upd_ne fun e => (R.zz z hz).2.1 (e ▸ List.mem_of_getElem? hn)⟩
theorem mets_append {x y : PV} {v w : V} (R : HR K Z G ι h H) (rx : RV K G ι x v) (ry : RV K G ι y w) (p : RP exc K (rV K) Z G ι H (appop x y h) Q E) : rAppend v [w] H Q := by
  unfold appop at p
  split at p
  · split at p
    · rename_i xs e
      split at p
      · rename_i hz
        obtain ⟨a, vs, rfl, hn, hH, rs⟩ := ref_lst R rx e
        exact ⟨a, vs, w, rfl, rfl, hH, by rw [← rs.length]; exact hz, put_lst R hn hH (rs.append (.cons ry .nil)) (Q := fun H' => Q .non H') fun G' ι' H' n => p G' ι' H' _ n .non⟩
      · exact p.elim
    · exact p.elim
  · exact p.elim
theorem mets_extend {x y : PV} {v w : V} (R : HR K Z G ι h H) (rx : RV K G ι x v) (ry : RV K G ι y w) (p : RP exc K (rV K) Z G ι H (extop x y h) Q E) : rExtR v [w] H Q := by
  unfold extop at p
  split at p
  · split at p
    · rename_i e e2
      split at p
      · rename_i hz
        obtain ⟨a, vs, rfl, hn, hH, rs⟩ := ref_lst R rx e
        obtain ⟨b, ws, rfl, hB, rs2⟩ := litems_of R ry e2
        exact ⟨a, b, vs, ws, rfl, rfl, hH, hB, by rw [← rs.length, ← rs2.length]; exact hz, put_lst R hn hH (rs.append rs2) (Q := fun H' => Q .non H') fun G' ι' H' n => p G' ι' H' _ n .non⟩
      · exact p.elim
    · exact p.elim
  · exact p.elim
end
end Mx

end

section
set_option Elab.async false
set_option Elab.async false
set_option linter.all false
set_option maxRecDepth 100000
set_option maxHeartbeats 4000000
/-! sorted of tuples that begin with a text of their own each -/
namespace Mx
open PySem PySem.Spec PyProof.Rows L2
def KeyU (h : Heap) (u : Value) (z : Str) : Prop := ∃ a o t r n, u = Value.ref a ∧ h.get? a = some o ∧ o.cls = .type "tuple" ∧ o.data = .seq r n ∧ r[0]? = some (.str z t)
theorem KeyU.keeps {h h' : Heap} {u : Value} {z : Str} (q : KeyU h u z) (k : ∀ b o, h.get? b = some o → o.cls = .type "tuple" → h'.get? b = some o) : KeyU h' u z := by
  obtain ⟨a, o, t, r, n, e, ho, hc, hd⟩ := q
  exact ⟨a, o, t, r, n, e, k _ _ ho hc, hc, hd⟩
theorem KeyU.inj {h : Heap} {u : Value} {z z' : Str} (q : KeyU h u z) (q' : KeyU h u z') : z = z' := by
  obtain ⟨a, o, t, r, n, rfl, ho, hc, hd, h0⟩ := q
  obtain ⟨a', o', t', r', n', e, ho', hc', hd', h0'⟩ := q'
  cases e
  rw [ho] at ho'; cases ho'
  rw [hd] at hd'; cases hd'
  rw [h0] at h0'
  cases h0'
  rfl
abbrev ltK (k : Value → Str) (v u : Value) : Bool := decide ((k v).cps.toList < (k u).cps.toList)
theorem swo_key (k : Value → Str) : SrtO.Swo (ltK k) := by
  refine ⟨fun x y h => ?_, fun x y z h1 h2 => ?_⟩
  · have a := of_decide_eq_true h
    exact decide_eq_false (List.lt_asymm a)
  · have a := of_decide_eq_false h1
    have b := of_decide_eq_false h2
    rw [List.not_lt] at a b
    refine decide_eq_false ?_
    rw [List.not_lt]
    exact List.le_trans a b
section
variable {prog : Program} {w : World} {A : Around} {E : Value → Shared → Prop} {s : Shared}
theorem kat_self {b fin : Bool} {Q : Bool → Shared → Prop} (h : Q fin s) : ∀ (l : List Value) (i : Nat), PySem.W.KatLex prog w A b fin Q (l.zip l) i s
  | [], i => PySem.W.kat_nil h
  | v :: l, i => PySem.W.kat_cons (SeqAt.EqAt.same v prog w _ _ (PySem.W.kat_yes (kat_self h l (i + 1))))
theorem key_cmp {vs : List Value} {k : Value → Str} (hp : ∀ v ∈ vs, KeyU s.heap v (k v)) (inj : ∀ v ∈ vs, ∀ u ∈ vs, k v = k u → v = u) : SrtO.Cmp prog w A s (tuples' true) (fun p => p.1 ∈ vs) (SrtO.lt2 (ltK k)) := by
  intro p q hm hm'
  show wpAny (model prog w) A (keyLt' (tuples' true) p.1 q.1) (fun r s' => s' = s ∧ r = ltK k p.1 q.1) (fun _ _ => False) s
  by_cases ek : k p.1 = k q.1
  · have e := inj _ hm _ hm' ek
    rw [← e]
    obtain ⟨a, o, t, r, n, e1, ho, hc, hd, h0⟩ := hp _ hm
    have lf : ltK k p.1 p.1 = false := decide_eq_false (List.lt_irrefl _)
    rw [lf, e1]
    refine PySem.W.kat_lt ho hd ho hd (kat_self ?_ _ _)
    exact ⟨rfl, decide_eq_false (Nat.lt_irrefl _)⟩
  · obtain ⟨a, o, t, r, n, e1, ho, hc, hd, h0⟩ := hp _ hm
    obtain ⟨a', o', t', r', n', e1', ho', hc', hd', h0'⟩ := hp _ hm'
    have el : ltK k p.1 q.1 = decide ((k p.1).cps.toList < (k q.1).cps.toList) := rfl
    rw [el]
    generalize k p.1 = x at *
    generalize k q.1 = y at *
    rw [e1, e1']
    refine PySem.W.kat_lt ho hd ho' hd' ?_
    obtain ⟨u1, l1⟩ : ∃ l, r.toList = Value.str x t :: l := by
      have h0 : r.toList[0]? = some (.str x t) := by rw [Array.getElem?_toList]; exact h0
      cases hl : r.toList with
      | nil => rw [hl] at h0; cases h0
      | cons v l => rw [hl] at h0; cases h0; exact ⟨l, rfl⟩
    obtain ⟨u2, l2⟩ : ∃ l, r'.toList = Value.str y t' :: l := by
      have h0 : r'.toList[0]? = some (.str y t') := by rw [Array.getElem?_toList]; exact h0'
      cases hl : r'.toList with
      | nil => rw [hl] at h0; cases h0
      | cons v l => rw [hl] at h0; cases h0; exact ⟨l, rfl⟩
    rw [l1, l2, List.zip_cons_cons]
    refine PySem.W.kat_cons (SeqAt.EqAt.str_str x t y t' prog w _ _ ?_)
    have ne : (x == y) = false := beq_eq_false_iff_ne.mpr ek
    rw [ne]
    exact PySem.W.kat_no (oneLt_str ⟨rfl, rfl⟩)
theorem firsts_key {h : Heap} {k : Value → Str} : ∀ {vs : List Value}, (∀ v ∈ vs, KeyU h v (k v)) → ∃ fs : List Value, PySem.W.KatTups h vs fs ∧ fs.length = vs.length ∧ ∀ f ∈ fs, ∃ x t, f = Value.str x t
  | [], _ => ⟨[], PySem.W.KatTups.nil, rfl, fun _ hm => nomatch hm⟩
  | v :: vs, hp => by
    obtain ⟨fs, q1, q2, q3⟩ := firsts_key (vs := vs) fun u hu => hp u (List.mem_cons_of_mem _ hu)
    obtain ⟨a, o, t, r, n, e, ho, hc, hd, h0⟩ := hp v List.mem_cons_self
    rw [e]
    refine ⟨_ :: fs, PySem.W.KatTups.cons ho hc hd h0 q1, by rw [List.length_cons, List.length_cons, q2], fun f hm => ?_⟩
    rcases List.mem_cons.mp hm with z | hm
    · exact ⟨_, t, z⟩
    · exact q3 f hm
theorem sorted_keys {l : Addr} {vs : List Value} {k : Value → Str} {Q : Value → Shared → Prop} (hl : s.heap.IsList l vs.toArray) (hz : vs.length ≤ sizeLine) (hp : ∀ v ∈ vs, KeyU s.heap v (k v)) (inj : ∀ v ∈ vs, ∀ u ∈ vs, k v = k u → v = u)
    (h : ∀ (h' : Heap) (d : Addr) (out : List Value), SrtO.Srtd (ltK k) out → out.Perm vs → (∀ b o, s.heap.get? b = some o → h'.get? b = some o) → s.heap.objs.size ≤ d → (∃ n, h'.get? d = some (seqObj "list" out.toArray n)) → Q (.ref d) { s with heap := h' }) :
    wpAny (model prog w) A (PySem.call (.builtin "sorted") [.ref l]) Q E s := by
  refine SrtO.sorted_ord (swo_key k) hl hz (fun h2 h₁ a ha kk => ?_) fun out hs hb => h _ _ out hs hb.perm (fun b o e => sortedAll_old e) (Nat.le_succ _) (sortedAll_at s.heap vs out.toArray)
  intro h' keep
  have nt : ∀ o, h₁.get? a = some o → o.cls ≠ .type "tuple" := fun o e => by
    have e' : some o = some (seqObj "list" vs.toArray 0) := e.symm.trans ha
    cases e'
    exact fun c => absurd (Value.type.inj c) (by decide)
  have hp' : ∀ v ∈ vs, KeyU h' v (k v) := fun v hm => (hp v hm).keeps fun b o e c => keep b o (fun z => by subst z; exact nt o (kk _ _ e).2 c) (kk b o e).2
  obtain ⟨fs, q1, q2, q3⟩ := firsts_key hp'
  refine ⟨tuples' true, fun Q E hq => ?_, key_cmp hp' inj⟩
  refine PySem.W.kat_kind (T := .type "str") q1 (by omega) (fun f hm => ?_) (by rfl) ?_
  · obtain ⟨x, t, rfl⟩ := q3 f hm
    exact PySem.W.Looks.now
  · have e : (Value.type "str" != Value.type "tuple") = true := by first | decide +kernel | rfl | decide
    rw [e]
    exact hq
end
noncomputable def kf (h : Heap) (u : Value) : Str := open Classical in if e : ∃ z, KeyU h u z then Classical.choose e else Str.empty
theorem kf_eq {h : Heap} {u : Value} {z : Str} (q : KeyU h u z) : kf h u = z := by
  have e : ∃ z, KeyU h u z := ⟨z, q⟩
  unfold kf
  rw [dif_pos e]
  exact (Classical.choose_spec e).inj q
/-- sorted(xs), xs a list of tuples that begin with texts, no two alike -/
def rSortedKT (K : PySem.W.Frag) : List V → Hp → VK → Prop := fun vs H Q => ∃ (a : Addr) (ps : List (V × Str)), vs = [V.ref a] ∧ SqL K H a (ps.map (·.1)) ∧ (∀ p ∈ ps, ∃ t r, p.1 = V.ref t ∧ SqT K H t (V.str p.2 :: r)) ∧ (ps.map (·.2)).Nodup ∧
  ∀ (zs : List (V × Str)) p, zs.Perm ps → zs.Pairwise (fun x y => ¬ y.2.cps.toList < x.2.cps.toList) → H p = none → Q (.ref p) (upd H p (.lst (zs.map (·.1))))
theorem pairs_back {h : Heap} : ∀ {ps : List (V × Str)} {us : List Value}, Vals (ps.map (·.1)) us → (∀ p ∈ ps, ∃ t : Addr, p.1 = V.ref t ∧ KeyU h (.ref t) p.2) → ps = us.map (fun u => (backV u, kf h u)) ∧ (∀ u ∈ us, ∃ a, u = Value.ref a) ∧ ∀ u ∈ us, KeyU h u (kf h u)
  | [], us, rv, _ => by
    cases rv
    exact ⟨rfl, fun _ hm => (nomatch hm), fun _ hm => (nomatch hm)⟩
  | p :: ps, us, rv, hk => by
    obtain ⟨u, us, rfl, r, t⟩ : ∃ u us', us = u :: us' ∧ RelV p.1 u ∧ Vals (ps.map (·.1)) us' := by
      cases rv with
      | cons r t => exact ⟨_, _, rfl, r, t⟩
    obtain ⟨e1, e2, e3⟩ := pairs_back t fun q hq => hk q (List.mem_cons_of_mem _ hq)
    obtain ⟨a, e, ku⟩ := hk p List.mem_cons_self
    rw [e] at r
    obtain rfl : u = Value.ref a := r
    have k1 := kf_eq ku
    refine ⟨?_, fun v hv => ?_, fun v hv => ?_⟩
    · rw [List.map_cons, ← e1, k1]
      congr 1
      exact Prod.ext e rfl
    · rcases List.mem_cons.mp hv with z | z
      · exact ⟨a, z⟩
      · exact e2 v z
    · rcases List.mem_cons.mp hv with z | z
      · rw [z, k1]; exact ku
      · exact e3 v z
theorem cr_sortedKT {X : Cx} : CallR X (.builtin "sorted") (rSortedKT X.K) := by
  intro pins s σ H vs us Q I r h
  obtain ⟨a, ps, rfl, hs, hx, nd, q⟩ := h
  obtain ⟨its, rv, hl, hz⟩ := I.list hs
  obtain ⟨u, rfl, ru⟩ := vals1 r
  obtain rfl : u = Value.ref a := ru
  obtain ⟨e1, e2, e3⟩ := pairs_back (h := s.heap) rv fun p hp => by
    obtain ⟨t, r, e, st⟩ := hx p hp
    obtain ⟨us, rv2, pl, _⟩ := I.tuple st
    obtain ⟨o, ho, hc, n, hd⟩ := pl
    cases rv2 with
    | cons r1 r2 =>
      obtain ⟨tk, rfl⟩ := r1
      exact ⟨t, e, t, o, _, _, n, rfl, ho, hc, hd, by simp; rfl⟩
  have len : its.length = ps.length := by rw [e1, List.length_map]
  refine sorted_keys (k := kf s.heap) hl.isList (by rw [List.length_map] at hz; omega) e3 (fun v hv w hw ek => ?_) fun h' d out h1 h2 kp hd hn => ?_
  · rw [e1, List.map_map] at nd
    have inj : ∀ {l : List Value}, (l.map (kf s.heap)).Nodup → v ∈ l → w ∈ l → v = w := by
      intro l
      induction l with
      | nil => intro _ hv; cases hv
      | cons x l ih =>
        intro nd hv hw
        rw [List.map_cons, List.nodup_cons] at nd
        rcases List.mem_cons.mp hv with z | hv2
        · rcases List.mem_cons.mp hw with z2 | hw2
          · rw [z, z2]
          · exact (nd.1 (List.mem_map.mpr ⟨w, hw2, by rw [← ek, z]⟩)).elim
        · rcases List.mem_cons.mp hw with z2 | hw2
          · exact (nd.1 (List.mem_map.mpr ⟨v, hv2, by rw [ek, z2]⟩)).elim
          · exact ih nd.2 hv2 hw2
    exact inj nd hv hw
  · have h3 : ∀ u ∈ out, ∃ a, u = Value.ref a := fun u hu => e2 u (h2.mem_iff.mp hu)
    obtain ⟨n, hn⟩ := hn
    have pm : (out.map fun u => (backV u, kf s.heap u)).Perm ps := by
      conv => rhs; rw [e1]
      exact h2.map _
    have pw : (out.map fun u => (backV u, kf s.heap u)).Pairwise (fun x y => ¬ y.2.cps.toList < x.2.cps.toList) := by
      rw [List.pairwise_map]
      exact h1.imp fun z => of_decide_eq_false z
    have em : (out.map fun u => (backV u, kf s.heap u)).map (·.1) = out.map backV := by rw [List.map_map]; rfl
    have fin := q _ d pm pw (I.hok.fresh hd)
    rw [em] at fin
    refine ⟨.ref d, upd H d (.lst (out.map backV)), I.laid (t' := s.toks) kp hd ⟨?_, out, n, vals_back h3, hn⟩, rfl, fin⟩
    rw [List.length_map, h2.length_eq]
    rw [List.length_map] at hz
    omega
end Mx

end

section
set_option Elab.async false
set_option Elab.async false
set_option linter.all false
set_option maxRecDepth 100000
set_option maxHeartbeats 2000000
/-! Sorting, dicts made, methods: by values. -/
namespace Mx
open PySem PySem.Spec PyProof.Rows L2
/-- two arrangements in order are one -/
theorem perm_one {α : Type} {le : α → α → Prop} (anti : ∀ a b, le a b → le b a → a = b) : ∀ {l m : List α}, l.Perm m → l.Pairwise le → m.Pairwise le → l = m
  | [], m, p, _, _ => (List.nil_perm.mp p).symm
  | a :: l, [], p, _, _ => absurd p.length_eq (by simp)
  | a :: l, b :: m, p, hl, hm => by
    rw [List.pairwise_cons] at hl hm
    have e : a = b := by
      have h1 : a ∈ b :: m := p.mem_iff.mp List.mem_cons_self
      have h2 : b ∈ a :: l := p.mem_iff.mpr List.mem_cons_self
      rcases List.mem_cons.mp h1 with e | h1
      · exact e
      · rcases List.mem_cons.mp h2 with e | h2
        · exact e.symm
        · exact anti a b (hl.1 b h2) (hm.1 a h1)
    subst e
    rw [perm_one anti (List.perm_cons _ |>.mp p) hl.2 hm.2]
theorem sort_ints {is js : List Int} (p : js.Perm is) (h : js.Pairwise (· ≤ ·)) : js = is.mergeSort fun i j => decide (i ≤ j) := by
  refine perm_one (le := (· ≤ ·)) (fun a b => Int.le_antisymm) (p.trans (List.mergeSort_perm ..).symm) h ?_
  have := List.pairwise_mergeSort (le := fun i j : Int => decide (i ≤ j)) (fun a b c h1 h2 => by simp at h1 h2 ⊢; omega) (fun a b => by simp; omega) is
  exact this.imp fun h => by simpa using h
theorem leS_iff {x y : Str} : leS x y = true ↔ x.cps.toList ≤ y.cps.toList := by
  unfold leS
  rw [Bool.not_eq_true', decide_eq_false_iff_not, List.not_lt]
theorem leS_trans (a b c : Str) (h1 : leS a b = true) (h2 : leS b c = true) : leS a c = true := leS_iff.mpr (List.le_trans (leS_iff.mp h1) (leS_iff.mp h2))
theorem leS_total (a b : Str) : (leS a b || leS b a) = true := by
  rw [Bool.or_eq_true, leS_iff, leS_iff]
  exact List.le_total _ _
theorem leS_anti (a b : Str) (h1 : leS a b = true) (h2 : leS b a = true) : a = b := by
  have := List.le_antisymm (leS_iff.mp h1) (leS_iff.mp h2)
  cases a; cases b
  simp only at this
  rw [Array.toList_inj] at this
  rw [this]
theorem rising_pw : ∀ {l : List Str} {p : Str}, risingS p l = true → (p :: l).Pairwise fun x y => leS x y = true
  | [], p, _ => List.pairwise_singleton _ _
  | x :: r, p, h => by
    have h' : (!ltCps x.cps.toList p.cps.toList && risingS x r) = true := h
    rw [Bool.and_eq_true, ← le_meets] at h'
    have ih := rising_pw h'.2
    rw [List.pairwise_cons]
    refine ⟨fun y hy => ?_, ih⟩
    rcases List.mem_cons.mp hy with rfl | hy
    · exact h'.1
    · exact leS_trans _ _ _ h'.1 ((List.pairwise_cons.mp ih).1 y hy)
theorem sort_strs {ss ts : List Str} (p : ts.Perm ss) (h : sortedS ts = true) : ts = ss.mergeSort leS := by
  refine perm_one (le := fun x y => leS x y = true) leS_anti (p.trans (List.mergeSort_perm ..).symm) ?_ (List.pairwise_mergeSort leS_trans leS_total ss)
  cases ts with
  | nil => exact .nil
  | cons x r => exact rising_pw h
theorem least_ok {is : List Int} {m i : Int} (e : least is = some i) (h1 : m ∈ is) (h2 : ∀ y ∈ is, m ≤ y) : m = i := by
  cases is with
  | nil => cases e
  | cons j js =>
    have e' : js.foldl (fun a b => if b < a then b else a) j = i := Option.some.inj e
    have key : ∀ (l : List Int) (j : Int), (l.foldl (fun a b => if b < a then b else a) j ∈ j :: l) ∧ ∀ y ∈ j :: l, l.foldl (fun a b => if b < a then b else a) j ≤ y := by
      intro l
      induction l with
      | nil => intro j; exact ⟨by simp, fun y hy => by simp at hy; subst hy; exact Int.le_refl _⟩
      | cons b l ih =>
        intro j
        rw [List.foldl_cons]
        obtain ⟨k1, k2⟩ := ih (if b < j then b else j)
        refine ⟨?_, fun y hy => ?_⟩
        · rcases List.mem_cons.mp k1 with k | k
          · rw [k]; split <;> simp
          · exact List.mem_cons_of_mem _ (List.mem_cons_of_mem _ k)
        · have k3 := k2 _ List.mem_cons_self
          rcases List.mem_cons.mp hy with rfl | hy
          · exact Int.le_trans k3 (by split <;> omega)
          · rcases List.mem_cons.mp hy with rfl | hy
            · exact Int.le_trans k3 (by split <;> omega)
            · exact k2 y (List.mem_cons_of_mem _ hy)
    obtain ⟨k1, k2⟩ := key js j
    rw [e'] at k1 k2
    exact Int.le_antisymm (h2 i k1) (k2 m h1)
theorem most_ok {is : List Int} {m i : Int} (e : most is = some i) (h1 : m ∈ is) (h2 : ∀ y ∈ is, y ≤ m) : m = i := by
  cases is with
  | nil => cases e
  | cons j js =>
    have e' : js.foldl (fun a b => if a < b then b else a) j = i := Option.some.inj e
    have key : ∀ (l : List Int) (j : Int), (l.foldl (fun a b => if a < b then b else a) j ∈ j :: l) ∧ ∀ y ∈ j :: l, y ≤ l.foldl (fun a b => if a < b then b else a) j := by
      intro l
      induction l with
      | nil => intro j; exact ⟨by simp, fun y hy => by simp at hy; subst hy; exact Int.le_refl _⟩
      | cons b l ih =>
        intro j
        rw [List.foldl_cons]
        obtain ⟨k1, k2⟩ := ih (if j < b then b else j)
        refine ⟨?_, fun y hy => ?_⟩
        · rcases List.mem_cons.mp k1 with k | k
          · rw [k]; split <;> simp
          · exact List.mem_cons_of_mem _ (List.mem_cons_of_mem _ k)
        · have k3 := k2 _ List.mem_cons_self
          rcases List.mem_cons.mp hy with rfl | hy
          · exact Int.le_trans (by split <;> omega) k3
          · rcases List.mem_cons.mp hy with rfl | hy
            · exact Int.le_trans (by split <;> omega) k3
            · exact k2 y (List.mem_cons_of_mem _ hy)
    obtain ⟨k1, k2⟩ := key js j
    rw [e'] at k1 k2
    exact Int.le_antisymm (k2 m h1) (h2 i k1)
section
variable {K : Wr} {Z : List Addr} {G : Hp} {ι : List Addr} {h : MH} {H : Hp} {exc : List Str} {E : XK} {Q : VK}
theorem ints_of : ∀ {xs : List PV} {vs : List V} {is : List Int}, RVs K G ι xs vs → intsOf xs = some is → vs = is.map V.int
  | _, _, _, .nil, e => by cases e; rfl
  | _, _, _, .cons (x := x) (xs := xs) r t, e => by
    cases x with
    | int b =>
      unfold intsOf at e
      cases q : intsOf xs with
      | none => rw [q] at e; cases e
      | some cs =>
        rw [q] at e; cases e
        rw [r.int_inv, ints_of t q]; rfl
    | _ => cases e
theorem strs_of : ∀ {xs : List PV} {vs : List V} {is : List Str}, RVs K G ι xs vs → strsOf xs = some is → vs = is.map V.str
  | _, _, _, .nil, e => by cases e; rfl
  | _, _, _, .cons (x := x) (xs := xs) r t, e => by
    cases x with
    | str b =>
      unfold strsOf at e
      cases q : strsOf xs with
      | none => rw [q] at e; cases e
      | some cs =>
        rw [q] at e; cases e
        rw [r.str_inv, strs_of t q]; rfl
    | _ => cases e
theorem rv_ints : ∀ is : List Int, RVs K G ι (is.map PV.int) (is.map V.int)
  | [] => .nil
  | i :: is => .cons (.int i) (rv_ints is)
theorem rv_strs : ∀ is : List Str, RVs K G ι (is.map PV.str) (is.map V.str)
  | [] => .nil
  | i :: is => .cons (.str i) (rv_strs is)
/-- a new dict -/
theorem mk_dic (R : HR K Z G ι h H) {kvs : List (Key × PV)} {qs : List (Key × V)} (rk : RK K G ι kvs qs) (p : RP exc K (rV K) Z G ι H (mkDic kvs h) Q E) : ∀ a, H a = none → Q (.ref a) (upd H a (.dK qs)) := by
  intro a ha
  have p' : RP exc K (rV K) Z G ι H (.ok (.ref h.length) (h ++ [.dic kvs])) Q E := p
  refine p' G (ι ++ [a]) _ _ ⟨Up.refl _, Pre.append _ _, R.alloc ha (rk.mono (Up.refl _) (Pre.append _ _)).toO, fun z hz => upd_ne fun e => R.freshZ ha (e ▸ hz)⟩ (.ref ?_)
  rw [← R.len]; simp
def rSortAll (K : PySem.W.Frag) : List V → Hp → VK → Prop := fun vs H Q => rSortedKT K vs H Q ∨ rSortedI K vs H Q ∨ rSortedS K vs H Q ∨ ∃ (a : Addr) (kvs : List (Key × V)) (ks : List Str), vs = [.ref a] ∧ Rd H a (.dK kvs) ∧ kvs.map (·.1) = ks.map Sum.inr ∧ ks.length < 64 ∧
    ∀ ys p, ys.Perm ks → sortedS ys = true → H p = none → Q (.ref p) (upd H p (.lst (ys.map V.str)))
theorem cr_sortAll {X : Cx} (hc : X.calm = true) : CallR X (.builtin "sorted") (rSortAll X.K) := cr_sortedKT.or <| cr_sortedI.or (cr_sortedS.or (call_sortedD hc))
theorem keys_strs : ∀ {kvs : List (Key × PV)} {ss : List Str}, strsOf (kvs.map fun p => kP p.1) = some ss → kvs.map (·.1) = ss.map Sum.inr
  | [], ss, e => by cases e; rfl
  | (k, v) :: kvs, ss, e => by
    cases k with
    | inl _ => cases e
    | inr x =>
      have e' : (strsOf (kvs.map fun p => kP p.1)).map (x :: ·) = some ss := e
      cases q : strsOf (kvs.map fun p => kP p.1) with
      | none => rw [q] at e'; cases e'
      | some t =>
        rw [q] at e'; cases e'
        rw [List.map_cons, List.map_cons, keys_strs q]
theorem rvs_keys (R : HR K Z G ι h H) : ∀ {xs : List PV} {vs : List V}, RVs K G ι xs vs → xs.all kOk = true → ∀ p ∈ vs.zip (xs.map kS), ∃ t r, p.1 = V.ref t ∧ SqT K.K H t (V.str p.2 :: r)
  | [], _, rs, _, p, hp => by cases rs; cases hp
  | x :: xs, _, rs, hk, p, hp => by
    obtain ⟨v, ws, rfl, rx, rr⟩ := rs.cons_inv
    rw [List.all_cons, Bool.and_eq_true] at hk
    rw [List.map_cons, List.zip_cons_cons] at hp
    rcases List.mem_cons.mp hp with z | hp
    · subst z
      obtain ⟨s, l, rfl⟩ : ∃ s l, x = .tup (.str s :: l) := by
        revert hk
        unfold kOk
        split
        · intro _; exact ⟨_, _, rfl⟩
        · intro hk; cases hk.1
      obtain ⟨t, us, rfl, hs, ru⟩ := rx.tup_inv
      obtain ⟨u, us', rfl, r1, r2⟩ := ru.cons_inv
      have := r1.str_inv
      subst this
      exact ⟨t, us', rfl, Same.seqT R.sub hs.sqT⟩
    · exact rvs_keys R rr hk.2 p hp
theorem rvs_perm {zs ws : List (V × Str)} (hp : zs.Perm ws) : ∀ xs : List PV, RVs K G ι xs (ws.map (·.1)) → xs.map kS = ws.map (·.2) → ∃ ys : List PV, ys.Perm xs ∧ RVs K G ι ys (zs.map (·.1)) ∧ ys.map kS = zs.map (·.2) := by
  induction hp with
  | nil =>
    intro xs r e
    exact ⟨xs, .refl _, r, e⟩
  | cons z _ ih =>
    intro xs r e
    cases xs with
    | nil => cases r
    | cons x xs =>
      obtain ⟨v, vs, ev, rx, rr⟩ := r.cons_inv
      rw [List.map_cons] at ev e
      rw [List.map_cons] at e
      cases ev
      obtain ⟨e1, e2⟩ := List.cons.inj e
      obtain ⟨ys, y1, y2, y3⟩ := ih xs rr e2
      exact ⟨x :: ys, y1.cons x, .cons rx y2, by rw [List.map_cons, List.map_cons, e1, y3]⟩
  | swap a b l =>
    intro xs r e
    rcases xs with _ | ⟨x, _ | ⟨y, xs⟩⟩
    · cases r
    · obtain ⟨v, vs, ev, rx, rr⟩ := r.cons_inv
      cases ev
      cases rr
    · obtain ⟨v, vs, ev, rx, rr⟩ := r.cons_inv
      cases ev
      obtain ⟨w, ws, ev, ry, rr⟩ := rr.cons_inv
      cases ev
      simp only [List.map_cons, List.cons.injEq] at e
      obtain ⟨e1, e2, e3⟩ := e
      exact ⟨y :: x :: xs, .swap _ _ _, .cons ry (.cons rx rr), by simp only [List.map_cons, e1, e2, e3]⟩
  | trans _ _ ih1 ih2 =>
    intro xs r e
    obtain ⟨ys, y1, y2, y3⟩ := ih2 xs r e
    obtain ⟨zs, z1, z2, z3⟩ := ih1 ys y2 y3
    exact ⟨zs, z1.trans y1, z2, z3⟩
theorem map_inj_on {α β : Type} {f : α → β} : ∀ {l m : List α}, l.map f = m.map f → (∀ x ∈ l, ∀ y ∈ m, f x = f y → x = y) → l = m
  | [], [], _, _ => rfl
  | [], _ :: _, e, _ => by cases e
  | _ :: _, [], e, _ => by cases e
  | x :: l, y :: m, e, h => by
    rw [List.map_cons, List.map_cons] at e
    obtain ⟨e1, e2⟩ := List.cons.inj e
    rw [h x List.mem_cons_self y List.mem_cons_self e1, map_inj_on e2 fun a ha b hb => h a (List.mem_cons_of_mem _ ha) b (List.mem_cons_of_mem _ hb)]
theorem nodup_inj {α β : Type} {f : α → β} : ∀ {l : List α}, (l.map f).Nodup → ∀ x ∈ l, ∀ y ∈ l, f x = f y → x = y
  | [], _, x, hx, _, _, _ => by cases hx
  | a :: l, nd, x, hx, y, hy, e => by
    rw [List.map_cons, List.nodup_cons] at nd
    rcases List.mem_cons.mp hx with z | hx2
    · rcases List.mem_cons.mp hy with z2 | hy2
      · rw [z, z2]
      · exact (nd.1 (List.mem_map.mpr ⟨y, hy2, by rw [← e, z]⟩)).elim
    · rcases List.mem_cons.mp hy with z2 | hy2
      · exact (nd.1 (List.mem_map.mpr ⟨x, hx2, by rw [e, z2]⟩)).elim
      · exact nodup_inj nd.2 x hx2 y hy2 e
theorem sort_keyed {xs ys : List PV} (nd : (xs.map kS).Nodup) (p : ys.Perm xs) (h : (ys.map kS).Pairwise fun x y => ¬ y.cps.toList < x.cps.toList) : ys = xs.mergeSort fun x y => leS (kS x) (kS y) := by
  have pm := List.mergeSort_perm xs fun x y => leS (kS x) (kS y)
  have e : ys.map kS = (xs.mergeSort fun x y => leS (kS x) (kS y)).map kS := by
    refine perm_one (le := fun x y => leS x y = true) leS_anti ((p.map kS).trans (pm.map kS).symm) (h.imp fun z => by unfold leS; rw [decide_eq_false z]; rfl) ?_
    rw [List.pairwise_map]
    exact List.pairwise_mergeSort (le := fun x y => leS (kS x) (kS y)) (fun a b c h1 h2 => leS_trans _ _ _ h1 h2) (fun a b => leS_total _ _) xs
  refine map_inj_on e fun x hx y hy ek => nodup_inj nd x (p.mem_iff.mp hx) y (pm.mem_iff.mp hy) ek
theorem calls_sorted {r : Bool} : CallS exc K (bltop .sorted r) (rSortAll K.K) := by
  intro Z G ι h H xs vs Q E R rs p
  obtain ⟨x, v, rfl, rfl, rx, p2⟩ := one_of rs p
  clear p
  have p := p2
  clear p2
  unfold sortop at p
  split at p
  · rename_i xs e1
    obtain ⟨a, vs, rfl, hq, rs'⟩ := litems_of R rx e1
    split at p
    · rename_i is e2
      have ev := ints_of rs' e2
      subst ev
      refine .inr (.inl ⟨a, is, rfl, .inl hq, fun ns' q hp hs hn => ?_⟩)
      rw [sort_ints hp hs]
      exact mk_lst R (rv_ints _) p q hn
    · split at p
      · rename_i ss e2
        have ev := strs_of rs' e2
        subst ev
        split at p
        · rename_i hl
          refine .inr (.inr (.inl ⟨a, ss, rfl, .inl hq, hl, fun ys q hp hs hn => ?_⟩))
          rw [sort_strs hp hs]
          exact mk_lst R (rv_strs _) p q hn
        · exact p.elim
      · split at p
        · rename_i hk
          refine .inl ⟨a, vs.zip (xs.map kS), rfl, ?_, fun q hq' => ?_, ?_, fun zs q hp hs hn => ?_⟩
          · rw [List.map_fst_zip (by rw [List.length_map, rs'.length]; exact Nat.le_refl _)]; exact .inl hq
          · exact rvs_keys R rs' hk.1 q hq'
          · rw [List.map_snd_zip (by rw [List.length_map, rs'.length]; exact Nat.le_refl _)]; exact hk.2
          · obtain ⟨ys, y1, y2, y3⟩ := rvs_perm hp xs (by rw [List.map_fst_zip (by rw [List.length_map, rs'.length]; exact Nat.le_refl _)]; exact rs') (by rw [List.map_snd_zip (by rw [List.length_map, rs'.length]; exact Nat.le_refl _)])
            have e := sort_keyed hk.2 y1 (by rw [y3, List.pairwise_map]; exact hs)
            rw [← e] at p
            exact mk_lst R y2 p q hn
        · exact p.elim
  · split at p
    · rename_i kvs e1
      split at p
      · rename_i ss e2
        split at p
        · rename_i hl
          obtain ⟨a, qs, rfl, hd, rk⟩ := ditems_of R rx e1
          refine .inr (.inr (.inr ⟨a, qs, ss, rfl, hd, rk.keys.symm.trans (keys_strs e2), hl, fun ys q hp hs hn => ?_⟩))
          rw [sort_strs hp hs]
          exact mk_lst R (rv_strs _) p q hn
        · exact p.elim
      · exact p.elim
    · exact p.elim
theorem calls_sum {r : Bool} : CallS exc K (bltop .sum r) (rSum K.K) := by
  intro Z G ι h H xs vs Q E R rs p
  obtain ⟨x, v, rfl, rfl, rx, p2⟩ := one_of rs p
  clear p
  have p := p2
  clear p2
  unfold sumop at p
  split at p
  · rename_i xs e1
    obtain ⟨a, vs, rfl, hq, rs'⟩ := litems_of R rx e1
    split at p
    · rename_i is e2
      have ev := ints_of rs' e2
      subst ev
      exact ⟨a, is, rfl, .inl hq, RP.ok_here p R (.int _)⟩
    · exact p.elim
  · exact p.elim
theorem calls_one {f : List Int → Option Int} {x : PV} {v : V} (R : HR K Z G ι h H) (rx : RV K G ι x v) (p : RP exc K (rV K) Z G ι H (oneop f x h) Q E) : ∃ (a : Addr) (is : List Int) (i : Int), v = V.ref a ∧ SqL K.K H a (is.map V.int) ∧ f is = some i ∧ Q (.int i) H := by
  unfold oneop at p
  split at p
  · rename_i xs e1
    obtain ⟨a, vs, rfl, hq, rs'⟩ := litems_of R rx e1
    split at p
    · rename_i is e2
      have ev := ints_of rs' e2
      subst ev
      split at p
      · rename_i i e3
        exact ⟨a, is, i, rfl, .inl hq, e3, RP.ok_here p R (.int _)⟩
      · exact p.elim
    · exact p.elim
  · exact p.elim
theorem calls_min1 {r : Bool} : CallS exc K (bltop .min1 r) (rMin K.K) := by
  intro Z G ι h H xs vs Q E R rs p
  obtain ⟨x, v, rfl, rfl, rx, p2⟩ := one_of rs p
  obtain ⟨a, is, i, rfl, hq, e, q⟩ := calls_one R rx p2
  refine ⟨a, is, rfl, hq, ?_, fun m h1 h2 => by rw [least_ok e h1 h2]; exact q⟩
  cases is with
  | nil => cases e
  | cons _ _ => exact Nat.succ_pos _
theorem calls_max1 {r : Bool} : CallS exc K (bltop .max1 r) (rMax K.K) := by
  intro Z G ι h H xs vs Q E R rs p
  obtain ⟨x, v, rfl, rfl, rx, p2⟩ := one_of rs p
  obtain ⟨a, is, i, rfl, hq, e, q⟩ := calls_one R rx p2
  refine ⟨a, is, rfl, hq, ?_, fun m h1 h2 => by rw [most_ok e h1 h2]; exact q⟩
  cases is with
  | nil => cases e
  | cons _ _ => exact Nat.succ_pos _
end
end Mx

end

section
set_option Elab.async false
set_option Elab.async false
set_option linter.all false
set_option maxRecDepth 100000
set_option maxHeartbeats 2000000
/-! dict(..) of pairs. -/
namespace Mx
open PySem PySem.Spec PyProof.Rows L2
section
variable {X : Cx} {pins : List (Addr × Obj)} {σ : L2.St} {H : Hp} {s : Shared}
theorem inv_tupN (I : Inv X pins σ H s) {a : Addr} {xs : List V} (h : SqN X.K H a xs) : ∃ its : List Value, Vals xs its ∧ PlainSeq "tuple" s.heap a its.toArray ∧ xs.length ≤ sizeLine := by
  rcases h with ⟨o, h, d⟩ | ⟨o, its, n, hk, hc, hs, hz, r, d⟩
  · obtain ⟨e, z, its, r, o', e', c, n, hd⟩ := (show ObjOk X.prog X.w H s.heap a (.frz o (.tup xs)) from I.hok a _ h)
    rw [e] at e'; cases e'
    exact ⟨its, r, ⟨o, n, e, c, d, hd⟩, z⟩
  · refine ⟨its.toList, r, ⟨o, n, I.kIn a o hk, hc, d, by simpa using hs⟩, ?_⟩
    have e := r.length
    simp only [Array.length_toList] at e
    omega
/-- t.index(k) of texts -/
def rTix (K : PySem.W.Frag) : V → List V → Hp → VK → Prop := fun x ys H Q => ∃ (a : Addr) (ss : List Str) (k : Str), x = .ref a ∧ ys = [.str k] ∧ SqT K H a (ss.map V.str) ∧ k ∈ ss ∧ Q (.int (ss.idxOf k : Nat)) H
theorem mt_tix : MtR X "tuple.index" (rTix X.K) := by
  intro pins s σ H x xs v us Q I rx rxs h
  obtain ⟨a, ss, k, rfl, rfl, ht, hk, q⟩ := h
  cases rx
  obtain ⟨u, rfl, ru⟩ := vals1 rxs
  obtain ⟨t, rfl⟩ := ru
  obtain ⟨its, rv, p, _⟩ := I.tuple ht
  have hT : s.heap.IsTuple a its.toArray := p
  exact SeqAt.tuple_index_strs hT (Vals.strs rv) hk ⟨.int _, H, I.tok _, ⟨_, rfl⟩, q⟩
def tBMT (K : PySem.W.Frag) (r : V → List V → Hp → VK → Prop) (ro : TE) (ra : TA) : TE := fun σ H Q => ro σ H fun x H1 => (∃ a xs, x = V.ref a ∧ SqN K H1 a xs) ∧ ra σ H1 fun ys H2 => r x ys H2 Q
theorem pe_bmT {o y : Expr} {ro : TE} {ra : TA} {apos cpos : Pos} {r : V → List V → Hp → VK → Prop} (hm : MtR X "tuple.index" r) (ho : PE X o ro) (ha : PA X [y] ra) (hb : attributeBase o "index" X.env (eval o X.env) = eval o X.env)
    (hf : ((backTo cpos (starEach [y] X.env)).all (fun x => !x.1) && (backToKw cpos (keywordEach [] X.env)).all (fun x => x.1.isSome) && decide (([y] : List Expr).length + ([] : List Keyword).length + (if ([] : List Keyword).isEmpty then 0 else 1) < 30)) = true)
    (hl : (apos.endLine == cpos.line) = true) (hs : starEach [y] X.env = [(false, eval y X.env)]) : PE X (.Call (.Attribute o "index" apos) [y] [] cpos) (tBMT X.K r ro ra) := by
  refine ⟨fun pins s σ H Q I q => wpAny_Call_method_late hb hf hl rfl (thn (ho.run pins s σ H _ I q) fun v s1 ⟨x, H1, I1, r1, ⟨a, xs, e1, e2⟩, q1⟩ => ?_)⟩
  subst e1
  cases r1
  obtain ⟨its, _, ⟨oo, n, g1, g2, g3, _⟩, _⟩ := inv_tupN I1 e2
  refine ⟨"tuple", "tuple.index", PySem.F.plainAttrs_tuple, PySem.F.slot_tuple_index, PySem.F.type_tuple_index, ⟨oo, g1, g2⟩, fun b eb => ?_, ?_⟩
  · cases eb
    exact ⟨oo, g1, g3⟩
  · have hA := ha.run cpos pins s1 σ H1 _ I1 q1
    rw [hs] at hA ⊢
    exact Calls.callWith_builtin rfl (Calls.evalArgs_plain (thn hA fun us s2 ⟨vs, H2, I2, r2, q2⟩ => hm pins s2 σ H2 (.ref a) vs (.ref a) us Q I2 rfl r2 q2))
theorem pairs_at (I : Inv X pins σ H s) : ∀ {ps : List Addr} {kvs : List (Key × V)}, Paired (fun p kv => SqT X.K H p [kV kv.1, kv.2]) ps kvs →
    ∃ (pv : List (Value × Value)) (rs : List (Key × Value)), KV kvs rs ∧ pv.length = ps.length ∧ rs.length = ps.length ∧ ∀ (j : Nat) (k v : Value), pv[j]? = some (k, v) → ∃ key b, rs[j]? = some (key, v) ∧ ps[j]? = some b ∧ IsTup s.heap b #[k, v] ∧ (mixKind X.prog X.w).is key k = true
  | _, _, .nil => ⟨[], [], .nil, rfl, rfl, fun j k v e => by simp at e⟩
  | _, _, .cons (a := p) (b := kv) h t => by
    obtain ⟨pv, rs, r, l1, l2, hp⟩ := pairs_at I t
    obtain ⟨its, rv, ht, _⟩ := I.tuple h
    obtain ⟨u, y, ei, ru, ry⟩ := vals2 rv
    subst ei
    refine ⟨(u, y) :: pv, (kv.1, y) :: rs, .cons ⟨rfl, ry⟩ r, by rw [List.length_cons, List.length_cons, l1], by rw [List.length_cons, List.length_cons, l2], fun j k v e => ?_⟩
    cases j with
    | zero =>
      have e' : (u, y) = (k, v) := Option.some.inj e
      cases e'
      exact ⟨kv.1, p, rfl, rfl, ht, kV_is ru⟩
    | succ j =>
      obtain ⟨key, b, e1, e2, e3, e4⟩ := hp j k v (by simpa using e)
      exact ⟨key, b, by simpa using e1, by simpa using e2, e3, e4⟩
def rDictT (K : PySem.W.Frag) : List V → Hp → VK → Prop := fun xs H Q => ∃ (a : Addr) (ps : List Addr) (kvs : List (Key × V)), xs = [.ref a] ∧ SqN K H a (ps.map V.ref) ∧ Paired (fun p kv => SqT K H p [kV kv.1, kv.2]) ps kvs ∧
    ∀ p, H p = none → Q (.ref p) (upd H p (.dK (mergeK [] kvs)))
theorem new_dict {h' : Heap} {tk : Nat} {Q : VK} (I : Inv X pins σ H s) {kvs : List (Key × V)} {rs : List (Key × Value)} (rel : KV kvs rs) (hz : kvs.length ≤ sizeLine) (hd : h'.DictOf (mixKind X.prog X.w) s.heap.objs.size (merged [] rs))
    (hk : ∀ b o, s.heap.get? b = some o → h'.get? b = some o) (q : ∀ p, H p = none → Q (.ref p) (upd H p (.dK (mergeK [] kvs)))) : EP X pins σ Q (.ref s.heap.objs.size) { s with heap := h', toks := tk } := by
  have hm : (s.heap.objs.size == sysModules) = false := beq_eq_false_iff_ne.mpr (Nat.ne_of_gt I.big)
  have hlen : (mergeK [] kvs).length ≤ sizeLine := by
    refine Nat.le_trans (length_mergeK kvs []) ?_
    rw [List.length_nil, Nat.zero_add]
    exact hz
  exact ⟨.ref s.heap.objs.size, upd H s.heap.objs.size (.dK (mergeK [] kvs)), I.laid (t' := tk) hk (Nat.le_refl _) (show ObjOk X.prog X.w _ _ _ (.dK (mergeK [] kvs)) from ⟨hlen, hm, merged [] rs, KV.merge rel .nil, hd⟩), rfl, q _ (I.hok.fresh (Nat.le_refl _))⟩
theorem call_dictT (hcalm : X.calm = true) : CallR X (.type "dict") (rDictT X.K) := by
  intro pins s σ H xs us Q I r q
  obtain ⟨a, ps, kvs, rfl, hq, hp, q⟩ := q
  obtain ⟨u, rfl, rx⟩ := vals1 r
  obtain rfl : u = Value.ref a := rx
  obtain ⟨its, rv, pl, hz⟩ := inv_tupN I hq
  have ei := refs_at rv
  subst ei
  rw [List.length_map] at hz
  obtain ⟨pv, rs, rel, l1, l2, hpr⟩ := pairs_at I hp
  refine PySem.call_dict_pairs (knd := mixKind X.prog X.w) (kvs := rs) (PairArg.tuple a (ps.map Value.ref).toArray (fun j => (ps[j]?).getD 0) pv) (I.ok.hd hcalm) ⟨pl, ?_, fun j k v e => ?_⟩ ⟨by rw [l2, l1], fun j k v e => ?_⟩ (by rw [l1]; exact hz) fun h' tk hd' hk => ?_
  · simp [l1]
  · obtain ⟨key, b, e1, e2, e3, e4⟩ := hpr j k v e
    obtain ⟨o, ho, hc, n, hd⟩ := e3
    exact ⟨by simp [e2], .inl ⟨o, by show s.heap.get? ((ps[j]?).getD 0) = some o; rw [e2]; exact ho, hc, n, hd⟩⟩
  · obtain ⟨key, b, e1, e2, e3, e4⟩ := hpr j k v e
    exact ⟨key, e1, e4⟩
  · exact new_dict I rel (by rw [rel.length, l2]; exact hz) hd' (fun b o e => hk b o (fun z => nomatch z) e) q
end
section
variable {K : Wr} {Z : List Addr} {G : Hp} {ι : List Addr} {h : MH} {H : Hp} {exc : List Str} {E : XK} {Q : VK}
theorem pairs_rel (hs : Same G H) : ∀ {xs : List PV} {vs : List V} {ps : List (Key × PV)}, RVs K G ι xs vs → pairsOf xs = some ps → ∃ (as : List Addr) (qs : List (Key × V)), vs = as.map V.ref ∧ Paired (fun p kv => SqT K.K H p [kV kv.1, kv.2]) as qs ∧ RK K G ι ps qs
  | _, _, _, .nil, e => by cases e; exact ⟨[], [], rfl, .nil, .nil⟩
  | _, _, ps, .cons (x := x) (xs := xs) r t, e => by
    unfold pairsOf at e
    split at e
    · rename_i heq; cases heq
    · rename_i k v ys heq
      cases heq
      split at e
      · rename_i k' ps' e1 e2
        cases e
        obtain ⟨as, qs, rfl, hp, rk⟩ := pairs_rel hs t e2
        obtain ⟨a, ws, rfl, hN, rws⟩ := r.tup_inv
        obtain ⟨v1, w1, rfl, r1, r2⟩ := rws.cons_inv
        obtain ⟨v2, w2, rfl, r3, r4⟩ := r2.cons_inv
        rw [r4.nil_inv, keyV r1 e1] at hN
        exact ⟨a :: as, (k', v2) :: qs, rfl, .cons (Same.seqT hs hN.sqT) hp, .cons ⟨rfl, r3⟩ rk⟩
      · cases e
    · cases e
def rDictAll (K : PySem.W.Frag) : List V → Hp → VK → Prop := fun xs H Q => (∃ (a : Addr) (kvs : List (Key × V)), xs = [.ref a] ∧ Rd H a (.dK kvs) ∧ ∀ p, H p = none → Q (.ref p) (upd H p (.dK kvs))) ∨
  (∃ (a : Addr) (ps : List Addr) (kvs : List (Key × V)), xs = [.ref a] ∧ SqL K H a (ps.map V.ref) ∧ Paired (fun p kv => SqT K H p [kV kv.1, kv.2]) ps kvs ∧ ∀ p, H p = none → Q (.ref p) (upd H p (.dK (mergeK [] kvs)))) ∨ rDictT K xs H Q
theorem call_dictAll {X : Cx} (hc : X.calm = true) : CallR X (.type "dict") (rDictAll X.K) := call_dictD.or ((call_dictP hc).or (call_dictT hc))
theorem calls_dict {r : Bool} : CallS exc K (bltop .dict r) (rDictAll K.K) := by
  intro Z G ι h H xs vs Q E R rs p
  obtain ⟨x, v, rfl, rfl, rx, p2⟩ := one_of rs p
  clear p
  have p := p2
  clear p2
  unfold dictop at p
  split at p
  · rename_i kvs e1
    obtain ⟨a, qs, rfl, hd, rk⟩ := ditems_of R rx e1
    exact .inl ⟨a, qs, rfl, hd, mk_dic R rk p⟩
  · split at p
    · rename_i xs e1
      split at p
      · rename_i ps e2
        cases items_of R rx e1 with
        | tup e hq rs' =>
          subst e
          obtain ⟨as, qs, rfl, hp, rk⟩ := pairs_rel R.sub rs' e2
          exact .inr (.inr ⟨_, as, qs, rfl, hq, hp, mk_dic R (rk.merge .nil) p⟩)
        | lst _ hq rs' =>
          obtain ⟨as, qs, rfl, hp, rk⟩ := pairs_rel R.sub rs' e2
          exact .inr (.inl ⟨_, as, qs, rfl, .inl hq, hp, mk_dic R (rk.merge .nil) p⟩)
      · exact p.elim
    · exact p.elim
end
end Mx

end

section
set_option Elab.async false
set_option Elab.async false
set_option linter.all false
set_option maxRecDepth 100000
set_option maxHeartbeats 4000000
/-! dict(zip(a, b)), a and b lists or tuples. -/
namespace Mx
open PySem PySem.Spec PyProof.Rows L2
section
variable {prog : Program} {w : World} {A : Around} {E : Value → Shared → Prop} {s : Shared} {z TI TO i1 i2 T : Addr} {fp1 fp2 : List Addr} {n1 n2 i : Nat} {P1 P2 : Nat → Value → Prop} {St1 St2 : Nat → Heap → Prop} {f : Bool} {oT : Obj}
/-- the next pair while the last one is still out -/
theorem zh_item {Q : Value → Shared → Prop} (S : ZipSep2 z TI TO i1 i2 fp1 fp2) (D1 : Draws prog w A i1 fp1 n1 P1 St1) (D2 : Draws prog w A i2 fp2 n2 P2 St2)
    (hz : IsZipHeld s.heap z TI TO T f) (hT : s.heap.get? T = some oT) (hTI : IsTupOf2 s.heap TI (.ref i1) (.ref i2)) (st1 : St1 i s.heap) (st2 : St2 i s.heap) (l1 : i < n1) (l2 : i < n2)
    (hQ : ∀ x y h' tk, P1 i x → P2 i y → IsZipHeld h' z TI TO T true → St1 (i + 1) h' → St2 (i + 1) h' → IsTupOf2 h' s.heap.objs.size x y →
      (∀ c o, c ≠ z → c ≠ i1 → c ≠ i2 → s.heap.get? c = some o → h'.get? c = some o) → Q (.ref s.heap.objs.size) { s with heap := h', toks := tk }) :
    wpAny (model prog w) A (Builtin.«zip.__next__» ⟨[.ref z], []⟩) (fun fin s' => ∃ v, fin = .done (.ret v) ∧ Q v s') E s := by
  obtain ⟨hp, g, d, tk0, os⟩ := s
  show wpAny _ _ (field (.ref z) 2 >>= _) _ _ _
  refine wpAny_bind (wpAny_field hz rfl (x := .bool false) rfl ?_)
  show wpAny _ _ (field (.ref z) 3 >>= _) _ _ _
  refine wpAny_bind (wpAny_field hz rfl (x := .ref TI) rfl ?_)
  refine wpAny_bind (wpAny_seqItems hTI rfl ?_)
  show wpAny _ _ (Builtin.SmallTypes.ownedTupleIsFree (.ref z) >>= _) _ _ _
  refine wpAny_bind (wpAny_tupleHeld_zip hz hT fun g1 hz1 hs1 => ?_)
  replace hs1 : Heap.SameBut z hp g1 := hs1
  simp only [Bool.false_eq_true, if_false]
  refine wpAny_bind ?_
  rw [← Array.forIn_toList]
  simp only [List.forIn_cons, List.forIn_nil]
  refine wpAny_bind (wpAny_bind (wpAny_holding ?_))
  show wpAny _ _ (Builtin.SmallTypes.nextOf (.ref i1) >>= _) _ _ ⟨g1, g, d, tk0, os⟩
  refine wpAny_bind (D1.item i _ _ _ l1 (D1.over st1 hs1 S.zf1) fun x g2 tk1 hx sn1 hs2 => wpAny_pure ?_)
  replace hs2 : Heap.SameBut i1 g1 g2 := hs2
  refine wpAny_pure ?_
  refine wpAny_bind (wpAny_bind (wpAny_holding ?_))
  show wpAny _ _ (Builtin.SmallTypes.nextOf (.ref i2) >>= _) _ _ ⟨g2, g, d, tk1, os⟩
  refine wpAny_bind (D2.item i _ _ _ l2 (D2.over (D2.over st2 hs1 S.zf2) hs2 S.sep1_2) fun y g3 tk2 hy sn2 hs3 => wpAny_pure ?_)
  replace hs3 : Heap.SameBut i2 g2 g3 := hs3
  refine wpAny_pure (wpAny_pure ?_)
  show wpAny _ _ (newTuple [x, y] >>= _) _ _ _
  refine wpAny_bind (wpAny_newTuple ?_)
  have hsz : g3.objs.size = hp.objs.size := by rw [hs3.1, hs2.1, hs1.1]
  have hz3 : IsZipHeld g3 z TI TO T true := hs3.extBut _ _ S.zi2 (hs2.extBut _ _ S.zi1 hz1)
  have hk : ∀ c o, c ≠ z → c ≠ i1 → c ≠ i2 → hp.get? c = some o → g3.get? c = some o := fun c o c1 c2 c3 e => hs3.extBut _ _ c3 (hs2.extBut _ _ c2 (hs1.extBut _ _ c1 e))
  have hp2 : IsTupOf2 (g3.push { cls := .type "tuple", data := .seq #[x, y] }) g3.objs.size x y := Heap.get?_push_size _ rfl
  have grow : ∀ b o, g3.get? b = some o → (g3.push { cls := .type "tuple", data := .seq #[x, y] }).get? b = some o := fun b o e => Heap.get?_push_of_some _ e
  refine wpAny_pure ⟨_, rfl, ?_⟩
  show Q (.ref g3.objs.size) _
  rw [hsz] at hp2 ⊢
  exact hQ x y _ tk2 hx hy (grow _ _ hz3) (D1.frame _ _ _ (D1.over sn1 hs3 S.sep2_1) fun b _ o e => grow b o e) (D2.frame _ _ _ sn2 fun b _ o e => grow b o e) hp2 fun c o c1 c2 c3 e => grow c o (hk c o c1 c2 c3 e)
theorem zh_end {Q : Fin → Shared → Prop} (S : ZipSep2 z TI TO i1 i2 fp1 fp2) (D1 : Draws prog w A i1 fp1 n1 P1 St1) (D2 : Draws prog w A i2 fp2 n2 P2 St2)
    (hz : IsZipHeld s.heap z TI TO T f) (hT : s.heap.get? T = some oT) (hTI : IsTupOf2 s.heap TI (.ref i1) (.ref i2)) (st1 : St1 i s.heap) (st2 : St2 i s.heap) (l1 : i ≤ n1) (l2 : i ≤ n2) (hend : i = n1 ∨ i = n2)
    (hE : ∀ h' tk e, (∀ c o, c ≠ z → c ≠ i1 → c ≠ i2 → s.heap.get? c = some o → h'.get? c = some o) → (∃ o, h'.get? e = some o ∧ o.cls = .type "StopIteration") → E (.ref e) { s with heap := h', toks := tk }) :
    wpAny (model prog w) A (Builtin.«zip.__next__» ⟨[.ref z], []⟩) Q E s := by
  obtain ⟨hp, g, d, tk0, os⟩ := s
  show wpAny _ _ (field (.ref z) 2 >>= _) _ _ _
  refine wpAny_bind (wpAny_field hz rfl (x := .bool false) rfl ?_)
  show wpAny _ _ (field (.ref z) 3 >>= _) _ _ _
  refine wpAny_bind (wpAny_field hz rfl (x := .ref TI) rfl ?_)
  refine wpAny_bind (wpAny_seqItems hTI rfl ?_)
  show wpAny _ _ (Builtin.SmallTypes.ownedTupleIsFree (.ref z) >>= _) _ _ _
  refine wpAny_bind (wpAny_tupleHeld_zip hz hT fun g1 hz1 hs1 => ?_)
  replace hs1 : Heap.SameBut z hp g1 := hs1
  simp only [Bool.false_eq_true, if_false]
  refine wpAny_bind ?_
  rw [← Array.forIn_toList]
  simp only [List.forIn_cons, List.forIn_nil]
  refine wpAny_bind (wpAny_bind (wpAny_holding ?_))
  show wpAny _ _ (Builtin.SmallTypes.nextOf (.ref i1) >>= _) _ _ ⟨g1, g, d, tk0, os⟩
  by_cases lt1 : i < n1
  · refine wpAny_bind (D1.item i _ _ _ lt1 (D1.over st1 hs1 S.zf1) fun x g2 tk1 hx sn1 hs2 => wpAny_pure ?_)
    replace hs2 : Heap.SameBut i1 g1 g2 := hs2
    refine wpAny_pure ?_
    refine wpAny_bind (wpAny_bind (wpAny_holding ?_))
    show wpAny _ _ (Builtin.SmallTypes.nextOf (.ref i2) >>= _) _ _ ⟨g2, g, d, tk1, os⟩
    have e2 : i = n2 := by omega
    refine wpAny_bind (D2.done ⟨g2, g, d, tk1, os⟩ _ _ (by rw [← e2]; exact D2.over (D2.over st2 hs1 S.zf2) hs2 S.sep1_2) fun g3 e hs3 he => ?_)
    replace hs3 : Heap.ExtBut i2 g2 g3 := hs3
    exact hE g3 tk1 e (fun c o c1 c2 c3 x => hs3 _ _ c3 (hs2.extBut _ _ c2 (hs1.extBut _ _ c1 x))) he
  · have e1 : i = n1 := by omega
    refine wpAny_bind (D1.done ⟨g1, g, d, tk0, os⟩ _ _ (by rw [← e1]; exact D1.over st1 hs1 S.zf1) fun g2 e hs2 he => ?_)
    replace hs2 : Heap.ExtBut i1 g1 g2 := hs2
    exact hE g2 tk0 e (fun c o c1 c2 _ x => hs2 _ _ c2 (hs1.extBut _ _ c1 x)) he
theorem nx_zh_item {Q : Option Value → Shared → Prop} (S : ZipSep2 z TI TO i1 i2 fp1 fp2) (D1 : Draws prog w A.in1 i1 fp1 n1 P1 St1) (D2 : Draws prog w A.in1 i2 fp2 n2 P2 St2)
    (hz : IsZipHeld s.heap z TI TO T f) (hT : s.heap.get? T = some oT) (hTI : IsTupOf2 s.heap TI (.ref i1) (.ref i2)) (st1 : St1 i s.heap) (st2 : St2 i s.heap) (l1 : i < n1) (l2 : i < n2)
    (hQ : ∀ x y h' tk, P1 i x → P2 i y → IsZipHeld h' z TI TO T true → St1 (i + 1) h' → St2 (i + 1) h' → IsTupOf2 h' s.heap.objs.size x y →
      (∀ c o, c ≠ z → c ≠ i1 → c ≠ i2 → s.heap.get? c = some o → h'.get? c = some o) → Q (some (.ref s.heap.objs.size)) { s with heap := h', toks := tk }) :
    wpAny (model prog w) A (pyNext (.ref z)) Q E s := by
  have hTy : s.TypeIs (.ref z) "zip" := ⟨_, hz, rfl⟩
  unfold pyNext
  exact wpAny_bind (wpAny_attempt (wpAny_callSpecial?_slot (name := Str.ofString "__next__") hTy F.slot_zip_next (wpAny_call_entry F.slot_zip_next hTy F.entry_zip_next
    (zh_item S D1 D2 hz hT hTI st1 st2 l1 l2 fun x y h' tk a1 a2 a3 a4 a5 a6 a7 => wpAny_pure (hQ x y h' tk a1 a2 a3 a4 a5 a6 a7)) (F.args_zip_next_1 _))))
theorem nx_zh_end {Q : Option Value → Shared → Prop} (S : ZipSep2 z TI TO i1 i2 fp1 fp2) (D1 : Draws prog w A.in1 i1 fp1 n1 P1 St1) (D2 : Draws prog w A.in1 i2 fp2 n2 P2 St2)
    (hz : IsZipHeld s.heap z TI TO T f) (hT : s.heap.get? T = some oT) (hTI : IsTupOf2 s.heap TI (.ref i1) (.ref i2)) (st1 : St1 i s.heap) (st2 : St2 i s.heap) (l1 : i ≤ n1) (l2 : i ≤ n2) (hend : i = n1 ∨ i = n2)
    (hQ : ∀ h' tk, (∀ c o, c ≠ z → c ≠ i1 → c ≠ i2 → s.heap.get? c = some o → h'.get? c = some o) → Q none { s with heap := h', toks := tk }) :
    wpAny (model prog w) A (pyNext (.ref z)) Q E s := by
  have hTy : s.TypeIs (.ref z) "zip" := ⟨_, hz, rfl⟩
  unfold pyNext
  refine wpAny_bind (wpAny_attempt (wpAny_callSpecial?_slot (name := Str.ofString "__next__") hTy F.slot_zip_next (wpAny_call_entry F.slot_zip_next hTy F.entry_zip_next
    (zh_end S D1 D2 hz hT hTI st1 st2 l1 l2 hend fun h' tk e hk he => ?_) (F.args_zip_next_1 _))))
  obtain ⟨o, ho, hc⟩ := he
  refine wpAny_bind (wpAny_isInstance (T := "StopIteration") (b := true) ⟨o, ho, hc⟩ isSubtype_stop ?_)
  exact wpAny_pure (hQ _ _ hk)
end
/-- what is drawn of a list or a tuple -/
structure Drw (v : Value) (items : Array Value) (o : Obj) (fp : List Addr) (H : Heap → Prop) (St : Addr → Nat → Heap → Prop) : Prop where
  beg : Begins v o H
  at0 : ∀ it h, h.get? it = some o → H h → St it 0 h
  dr : ∀ (prog : Program) (w : World) (A : Around) (it : Addr), A.handled = none → it ∉ fp → Draws prog w A it (it :: fp) items.size (fun i v => items[i]? = some v) (St it)
  live : ∀ it i h, St it i h → ∀ b ∈ it :: fp, ∃ o, h.get? b = some o
  frame : ∀ it i h h', St it i h → (∀ b ∈ it :: fp, ∀ o, h.get? b = some o → h'.get? b = some o) → St it i h'
theorem drw_list (l : Addr) (items : Array Value) : Drw (.ref l) items { cls := .type "list_iterator", data := .fields #[.ref l, .int 0 0] } [l] (fun h => h.IsList l items) (fun it i h => h.IsListIter it l i ∧ h.IsList l items) where
  beg := begins_list l items
  at0 := fun it h e hl => ⟨⟨_, e, rfl, rfl⟩, hl⟩
  dr := fun prog w A it hh hn => Draws.list hh it l (fun e => hn (by simp [e])) items
  live := fun it i h st b hb => by
    obtain ⟨⟨o, ho, _⟩, ⟨o2, ho2, _⟩⟩ := st
    rcases List.mem_cons.mp hb with rfl | hb
    · exact ⟨o, ho⟩
    · obtain rfl : b = l := by simpa using hb
      exact ⟨o2, ho2⟩
  frame := fun it i h h' st hk => ⟨st.1.at fun o e => hk it (by simp) o e, st.2.at fun o e => hk l (by simp) o e⟩
theorem drw_tuple (l : Addr) (items : Array Value) : Drw (.ref l) items { cls := .type "tuple_iterator", data := .fields #[.ref l, .int 0 0] } [l] (fun h => h.IsTuple l items) (fun it i h => h.IsTupleIter it l i ∧ h.IsTuple l items) where
  beg := begins_tuple l items
  at0 := fun it h e hl => ⟨⟨_, e, rfl, rfl⟩, hl⟩
  dr := fun prog w A it hh hn => Draws.tuple hh it l (fun e => hn (by simp [e])) items
  live := fun it i h st b hb => by
    obtain ⟨⟨o, ho, _⟩, ⟨o2, ho2, _⟩⟩ := st
    rcases List.mem_cons.mp hb with rfl | hb
    · exact ⟨o, ho⟩
    · obtain rfl : b = l := by simpa using hb
      exact ⟨o2, ho2⟩
  frame := fun it i h h' st hk => ⟨st.1.at fun o e => hk it (by simp) o e, st.2.at fun o e => hk l (by simp) o e⟩
/-- zip(a, b) as the argument of dict(..) -/
theorem pa_zipD {prog : Program} {w : World} {v1 v2 : Value} {xs ys : Array Value} {o1 o2 : Obj} {f1 f2 : List Addr} {H1 H2 : Heap → Prop} {St1 St2 : Addr → Nat → Heap → Prop} (R1 : Drw v1 xs o1 f1 H1 St1) (R2 : Drw v2 ys o2 f2 H2 St2) {z TI TO i1 i2 : Addr} (S : ZipSep2 z TI TO i1 i2 (i1 :: f1) (i2 :: f2)) (n1 : i1 ∉ f1) (n2 : i2 ∉ f2) :
    PairArg prog w "zip" z (z :: TI :: TO :: ((i1 :: f1) ++ (i2 :: f2))) [z, TO, i1, i2] (min xs.size ys.size) (fun i k v => xs[i]? = some k ∧ ys[i]? = some v)
      (fun h => IsZip h z TI TO .none ∧ IsTupOf2 h TI (.ref i1) (.ref i2) ∧ (∃ a b, IsTupOf2 h TO a b) ∧ St1 i1 0 h ∧ St2 i2 0 h) := by
  have D1 : ∀ A : Around, A.handled = none → Draws prog w A i1 (i1 :: f1) xs.size (fun i v => xs[i]? = some v) (St1 i1) := fun A hh => R1.dr prog w A i1 hh n1
  have D2 : ∀ A : Around, A.handled = none → Draws prog w A i2 (i2 :: f2) ys.size (fun i v => ys[i]? = some v) (St2 i2) := fun A hh => R2.dr prog w A i2 hh n2
  have fr1 := fun i h h' => R1.frame i1 i h h'
  have fr2 := fun i h h' => R2.frame i2 i h h'
  refine { type := fun s ok => ⟨_, ok.1, rfl⟩, notDict := by decide, keep := ?_, there := ?_, sub := ?_, noKeys := ?_, iter := ?_ }
  · rintro h h' ⟨hz, hTI, ⟨a, b, hTO⟩, s1, s2⟩ hk
    exact ⟨hk _ _ hz, hk _ _ hTI, ⟨a, b, hk _ _ hTO⟩, fr1 _ _ _ s1 fun b _ o e => hk b o e, fr2 _ _ _ s2 fun b _ o e => hk b o e⟩
  · rintro h ⟨hz, hTI, ⟨a, b, hTO⟩, s1, s2⟩ c hc
    rcases List.mem_cons.mp hc with rfl | hc
    · exact ⟨_, hz⟩
    rcases List.mem_cons.mp hc with rfl | hc
    · exact ⟨_, hTI⟩
    rcases List.mem_cons.mp hc with rfl | hc
    · exact ⟨_, hTO⟩
    rcases List.mem_append.mp hc with hc | hc
    · exact R1.live _ _ _ s1 c hc
    · exact R2.live _ _ _ s2 c hc
  · intro b hb
    simp only [List.mem_cons, List.not_mem_nil, or_false] at hb
    rcases hb with rfl | rfl | rfl | rfl <;> simp
  · intro A s Q E hA ok h
    exact getAttrOr_miss_zip ok.1 rfl rfl rfl zip_no_keys (by decide +kernel) hA h
  · intro A s d Q E hA ok hd hdf h
    obtain ⟨hz, hTI, ⟨a, b, hTO⟩, s1, s2⟩ := ok
    have hdf' : d ≠ z ∧ d ≠ TI ∧ d ≠ TO ∧ d ∉ i1 :: f1 ∧ d ∉ i2 :: f2 := by
      refine ⟨fun e => hdf (by simp [e]), fun e => hdf (by simp [e]), fun e => hdf (by simp [e]), fun e => hdf ?_, fun e => hdf ?_⟩
      · exact List.mem_cons_of_mem _ (List.mem_cons_of_mem _ (List.mem_cons_of_mem _ (List.mem_append_left _ e)))
      · exact List.mem_cons_of_mem _ (List.mem_cons_of_mem _ (List.mem_cons_of_mem _ (List.mem_append_right _ e)))
    obtain ⟨dz, dTI, dTO, d1, d2⟩ := hdf'
    have di1 : d ≠ i1 := fun e => d1 (by simp [e])
    have di2 : d ≠ i2 := fun e => d2 (by simp [e])
    refine wpAny_pyIter_zip hz (h z [z, TO, i1, i2] (fun i h => IsTupOf2 h TI (.ref i1) (.ref i2) ∧ St1 i1 i h ∧ St2 i2 i h ∧
      ((IsZip h z TI TO .none ∧ ∃ a b, IsTupOf2 h TO a b) ∨ ∃ T f oT, IsZipHeld h z TI TO T f ∧ h.get? T = some oT ∧ T ≠ z ∧ T ≠ i1 ∧ T ≠ i2 ∧ T ≠ d)) s.heap s.toks ?_
      ⟨hTI, s1, s2, .inl ⟨hz, a, b, hTO⟩⟩ (fun _ _ e => e) fun b hb => .inl hb)
    refine { off := ?_, frame := ?_, item := ?_, done := ?_ }
    · intro hm
      simp only [List.mem_cons, List.not_mem_nil, or_false] at hm
      rcases hm with e | e | e | e
      · exact dz e
      · exact dTO e
      · exact di1 e
      · exact di2 e
    · rintro i g1 g2 ⟨hTI, s1, s2, hz⟩ hk
      refine ⟨hk _ _ (Ne.symm dTI) hTI, fr1 _ _ _ s1 fun b hb o e => hk b o (fun q => d1 (q ▸ hb)) e, fr2 _ _ _ s2 fun b hb o e => hk b o (fun q => d2 (q ▸ hb)) e, ?_⟩
      rcases hz with ⟨hz, a, b, hTO⟩ | ⟨T, f, oT, hz, hT, r1, r2, r3, r4⟩
      · exact .inl ⟨hk _ _ (Ne.symm dz) hz, a, b, hk _ _ (Ne.symm dTO) hTO⟩
      · exact .inr ⟨T, f, oT, hk _ _ (Ne.symm dz) hz, hk _ _ r4 hT, r1, r2, r3, r4⟩
    · rintro i s3 Q3 E3 hi ⟨hTI, s1, s2, hz⟩ hds hQ
      have l1 : i < xs.size := Nat.lt_of_lt_of_le hi (Nat.min_le_left ..)
      have l2 : i < ys.size := Nat.lt_of_lt_of_le hi (Nat.min_le_right ..)
      have lt : ∀ {c o}, s3.heap.get? c = some o → s3.heap.objs.size ≠ c := fun e => Nat.ne_of_gt (Heap.lt_size e)
      have m1 : s3.heap.objs.size ≠ i1 := let ⟨_, e⟩ := R1.live _ _ _ s1 i1 List.mem_cons_self; lt e
      have m2 : s3.heap.objs.size ≠ i2 := let ⟨_, e⟩ := R2.live _ _ _ s2 i2 List.mem_cons_self; lt e
      rcases hz with ⟨hz, a, b, hTO⟩ | ⟨T, f, oT, hz, hT, r1, r2, r3, r4⟩
      · refine wpAny_pyNext_zipD2_item S (D1 A.in1 hA) (D2 A.in1 hA) hz hTI hTO s1 s2 l1 l2 fun x y h' tk q1 q2 a1 a2 t1 t2 a5 a6 hk => ?_
        exact hQ s3.heap.objs.size x y h' tk ⟨q1, q2⟩ (.inl ⟨_, a5, rfl, _, rfl⟩)
          ⟨hk _ _ S.TIz S.TITO S.TIi1 S.TIi2 hTI, t1, t2, .inr ⟨s3.heap.objs.size, false, _, a1, a5, lt hz, m1, m2, Nat.ne_of_gt hds⟩⟩
          fun c o hc e => hk c o (fun x => hc (by simp [x])) (fun x => hc (by simp [x])) (fun x => hc (by simp [x])) (fun x => hc (by simp [x])) e
      · refine nx_zh_item S (D1 A.in1 hA) (D2 A.in1 hA) hz hT hTI s1 s2 l1 l2 fun x y h' tk q1 q2 a1 t1 t2 a5 hk => ?_
        exact hQ s3.heap.objs.size x y h' tk ⟨q1, q2⟩ (.inl ⟨_, a5, rfl, _, rfl⟩)
          ⟨hk _ _ S.TIz S.TIi1 S.TIi2 hTI, t1, t2, .inr ⟨T, true, oT, a1, hk _ _ r1 r2 r3 hT, r1, r2, r3, r4⟩⟩
          fun c o hc e => hk c o (fun x => hc (by simp [x])) (fun x => hc (by simp [x])) (fun x => hc (by simp [x])) e
    · rintro s3 Q3 E3 ⟨hTI, s1, s2, hz⟩ hQ
      have hend : min xs.size ys.size = xs.size ∨ min xs.size ys.size = ys.size := by omega
      rcases hz with ⟨hz, a, b, hTO⟩ | ⟨T, f, oT, hz, hT, r1, r2, r3, r4⟩
      · exact wpAny_pyNext_zipD2_end S (D1 A.in1 hA) (D2 A.in1 hA) hz hTI hTO s1 s2 (Nat.min_le_left ..) (Nat.min_le_right ..) hend fun h' tk hk => hQ h' tk fun c o hc e => hk c o (fun x => hc (by simp [x])) (fun x => hc (by simp [x])) (fun x => hc (by simp [x])) (fun x => hc (by simp [x])) e
      · exact nx_zh_end S (D1 A.in1 hA) (D2 A.in1 hA) hz hT hTI s1 s2 (Nat.min_le_left ..) (Nat.min_le_right ..) hend fun h' tk hk => hQ h' tk fun c o hc e => hk c o (fun x => hc (by simp [x])) (fun x => hc (by simp [x])) (fun x => hc (by simp [x])) e
section
variable {X : Cx} {pins : List (Addr × Obj)} {σ : L2.St} {H : Hp} {s : Shared}
/-- a list or a tuple of the layer, as it is drawn -/
theorem drw_of (I : Inv X pins σ H s) {a : Addr} {xs : List V} (h : SqL X.K H a xs ∨ SqT X.K H a xs) : ∃ (its : List Value) (o : Obj) (Hh : Heap → Prop) (St : Addr → Nat → Heap → Prop), Vals xs its ∧ Drw (.ref a) its.toArray o [a] Hh St ∧ Hh s.heap ∧ a < s.heap.objs.size ∧ xs.length ≤ sizeLine := by
  rcases h with h | h
  · obtain ⟨its, rv, p, hz⟩ := I.list h
    exact ⟨its, _, _, _, rv, drw_list a its.toArray, p.isList, p.lt, hz⟩
  · obtain ⟨its, rv, p, hz⟩ := I.tuple h
    obtain ⟨o1, ho1, _⟩ := id p
    exact ⟨its, _, _, _, rv, drw_tuple a its.toArray, (show s.heap.IsTuple a its.toArray from p), Heap.lt_size ho1, hz⟩
def rDz (K : PySem.W.Frag) : List V → Hp → VK → Prop := fun vs H Q => ∃ (a b : Addr) (xs ys : List V) (ks : List Key), vs = [V.ref a, V.ref b] ∧ (SqL K H a xs ∨ SqT K H a xs) ∧ (SqL K H b ys ∨ SqT K H b ys) ∧ xs = ks.map kV ∧ ∀ p, H p = none → Q (.ref p) (upd H p (.dK (mergeK [] (ks.zip ys))))
theorem new_dict2 {d : Addr} {h' : Heap} {tk : Nat} {Q : VK} (I : Inv X pins σ H s) {kvs : List (Key × V)} {rs : List (Key × Value)} (rel : KV kvs rs) (hz : kvs.length ≤ sizeLine) (hle : s.heap.objs.size ≤ d) (hd : h'.DictOf (mixKind X.prog X.w) d (merged [] rs))
    (hk : ∀ b o, s.heap.get? b = some o → h'.get? b = some o) (q : ∀ p, H p = none → Q (.ref p) (upd H p (.dK (mergeK [] kvs)))) : EP X pins σ Q (.ref d) { s with heap := h', toks := tk } := by
  have big : sysModules < d := Nat.lt_of_lt_of_le I.big hle
  have hm : (d == sysModules) = false := beq_eq_false_iff_ne.mpr (Nat.ne_of_gt big)
  have len : (mergeK [] kvs).length ≤ sizeLine := by
    refine Nat.le_trans (length_mergeK kvs []) ?_
    rw [List.length_nil, Nat.zero_add]; exact hz
  exact ⟨.ref d, upd H d (.dK (mergeK [] kvs)), I.laid (t' := tk) hk hle (show ObjOk X.prog X.w _ _ _ (.dK (mergeK [] kvs)) from ⟨len, hm, merged [] rs, KV.merge rel .nil, hd⟩), rfl, q _ (I.hok.fresh hle)⟩
theorem kv_zip {ks : List Key} : ∀ {ys : List V} {us : List Value}, Vals ys us → KV (ks.zip ys) (ks.zip us) := by
  induction ks with
  | nil => intro ys us _; exact .nil
  | cons k ks ih =>
    intro ys us r
    cases r with
    | nil => exact .nil
    | cons r t => exact .cons ⟨rfl, r⟩ (ih t)
theorem keys_is : ∀ {ks : List Key} {us : List Value}, Vals (ks.map kV) us → ks.length = us.length ∧ ∀ (j : Nat) (u : Value), us[j]? = some u → ∃ k, ks[j]? = some k ∧ (mixKind X.prog X.w).is k u = true
  | [], us, r => by
    rw [List.map_nil] at r
    cases r
    exact ⟨rfl, fun j u e => by simp at e⟩
  | k :: ks, us, r => by
    rw [List.map_cons] at r
    cases r with
    | cons r t =>
      obtain ⟨h1, h2⟩ := keys_is t
      refine ⟨by rw [List.length_cons, List.length_cons, h1], fun j u e => ?_⟩
      cases j with
      | zero => cases (show some _ = some u from e); exact ⟨k, rfl, kV_is r⟩
      | succ j => exact h2 j u (by simpa using e)
theorem pe_dz {e e2 : Expr} {ta : TA} {p p2 p3 pos : Pos} {g z : Str} (hgn : g = ("dict" : Str)) (hzn : z = ("zip" : Str)) (hc : X.calm = true) (hgD : Gl X g) (hmD : X.mg g = none) (hgZ : Gl X z) (hmZ : X.mg z = none) (ha : PA X [e, e2] ta)
    (hs : starEach [e, e2] X.env = (false, eval e X.env) :: starEach [e2] X.env) (hpl : (backTo p3 (starEach [e2] X.env)).any (·.1) = false) :
    PE X (.Call (.Name g p) [.Call (.Name z p2) [e, e2] [] p3] [] pos) (tCB (rDz X.K) ta) := by
  subst hgn hzn
  refine ⟨fun pins s σ H Q I h => ?_⟩
  refine wpAny_Call_Name_kw (ld_blt I hgD hmD PyProof.Rows.boot_dict ?_ (by decide) (by decide))
  refine PyProof.Rows.callWith_type1 (Calls.spliced_cons ?_) rfl rfl
  refine Call_ (ld_blt I hgZ hmZ PyProof.Rows.boot_zip (PyProof.Rows.callWith_type1 (thn (ha.run p3 pins s σ H _ I h) fun us s1 ⟨vs, H1, I1, r1, q1⟩ => ?_) hs hpl) (by decide) (by decide))
  obtain ⟨a, b, xs, ys, ks, rfl, hqx, hqy, ex, q⟩ := q1
  obtain ⟨u1, u2, rfl, r2, r3⟩ := r1.two
  cases r2
  cases r3
  obtain ⟨its, o1, Hh1, St1, rv1, R1, k1, lt1, z1⟩ := drw_of I1 hqx
  obtain ⟨its2, o2, Hh2, St2, rv2, R2, k2, lt2, z2⟩ := drw_of I1 hqy
  subst ex
  obtain ⟨hl, hk⟩ := keys_is (X := X) rv1
  refine zip_begins2 R1.beg R2.beg k1 k2 fun h' hz hTI hTO e1 e2 hsz hkp => Calls.spliced_nil ?_
  have I2 : Inv X pins σ H1 { s1 with heap := h' } := I1.kept (t' := s1.toks) hkp
  have kp1 := R1.beg.keeps _ _ k1 hkp
  have kp2 := R2.beg.keeps _ _ k2 hkp
  have S := zip_sep2 (N := s1.heap.objs.size) (fp1 := [a]) (fp2 := [b]) (fun c hc => by rw [List.mem_singleton.mp hc]; exact lt1) (fun c hc => by rw [List.mem_singleton.mp hc]; exact lt2)
  have n1 : s1.heap.objs.size ∉ [a] := fun hm => Nat.ne_of_gt lt1 (List.mem_singleton.mp hm)
  have n2 : s1.heap.objs.size + 1 ∉ [b] := fun hm => by
    have e := List.mem_singleton.mp hm
    have : b = s1.heap.objs.size + 1 := e.symm
    have l : b < s1.heap.objs.size := lt2
    rw [this] at l
    exact Nat.lt_irrefl _ (Nat.lt_of_succ_lt l)
  refine PySem.call_dict_pairs (knd := mixKind X.prog X.w) (kvs := ks.zip its2) (pa_zipD R1 R2 S n1 n2) (I.ok.hd hc) ⟨hz, hTI, ⟨_, _, hTO⟩, R1.at0 _ _ e1 kp1, R2.at0 _ _ e2 kp2⟩ ⟨by rw [List.length_zip, hl]; simp, fun j k v e => ?_⟩ ?_ fun h2 tk hd' hk2 => ?_
  · obtain ⟨ek, ev⟩ := e
    obtain ⟨key, e3, e4⟩ := hk j k (by simpa using ek)
    refine ⟨key, ?_, e4⟩
    rw [List.getElem?_zip_eq_some]
    exact ⟨e3, by simpa using ev⟩
  · have := rv1.length
    rw [List.length_map] at this
    rw [List.length_map] at z1
    simp only [List.size_toArray]
    omega
  · refine new_dict2 (s := s1) (h' := h2) I1 (kv_zip rv2) (by rw [List.length_zip]; rw [List.length_map] at z1; omega) (by show s1.heap.objs.size ≤ h'.objs.size; rw [hsz]; exact Nat.le_add_right _ _) hd' (fun b o e => hk2 b o (fun hm => ?_) (hkp b o e)) q
    have lb : b < s1.heap.objs.size := Heap.lt_size e
    simp only [List.mem_cons, List.not_mem_nil, or_false] at hm
    rcases hm with q | q | q | q
    · rw [q] at lb; exact absurd lb (Nat.not_lt.mpr (Nat.le_add_right _ _))
    · rw [q] at lb; exact absurd lb (Nat.not_lt.mpr (Nat.le_add_right _ _))
    · rw [q] at lb; exact Nat.lt_irrefl _ lb
    · rw [q] at lb; exact absurd lb (Nat.not_lt.mpr (Nat.le_add_right _ _))
end
section
variable {K : Wr} {Z : List Addr} {G : Hp} {ι : List Addr} {h : MH} {H : Hp} {exc : List Str} {E : XK} {Q : VK}
theorem keys_of : ∀ {xs : List PV} {vs : List V} {ks : List Key}, RVs K G ι xs vs → keysOf xs = some ks → vs = ks.map kV
  | _, _, _, .nil, e => by cases e; rfl
  | _, _, ks, .cons (x := x) (xs := xs) r t, e => by
    cases e1 : keyOf x with
    | none => unfold keysOf at e; rw [e1] at e; cases e
    | some k =>
      cases e2 : keysOf xs with
      | none => unfold keysOf at e; rw [e1, e2] at e; cases e
      | some l =>
        unfold keysOf at e
        rw [e1, e2] at e
        cases e
        rw [List.map_cons, keyV r e1, keys_of t e2]
theorem rk_zip {ks : List Key} : ∀ {xs : List PV} {vs : List V}, RVs K G ι xs vs → RK K G ι (ks.zip xs) (ks.zip vs) := by
  induction ks with
  | nil => intro xs vs _; exact .nil
  | cons k ks ih =>
    intro xs vs r
    cases r with
    | nil => exact .nil
    | cons r t => exact .cons ⟨rfl, r⟩ (ih t)
theorem dz_ok {x y : PV} {vx vy : V} (R : HR K Z G ι h H) (rx : RV K G ι x vx) (ry : RV K G ι y vy) (p : RP exc K (rV K) Z G ι H (dzipop x y h) Q E) : rDz K.K [vx, vy] H Q := by
  unfold dzipop at p
  split at p
  · rename_i e1 e2
    split at p
    · rename_i ks e3
      obtain ⟨a, vs, rfl, hq, rs⟩ := (items_of R rx e1).sq
      obtain ⟨b, ws, rfl, hq2, rs2⟩ := (items_of R ry e2).sq
      exact ⟨a, b, vs, ws, ks, rfl, hq, hq2, keys_of rs e3, mk_dic R ((rk_zip rs2).merge .nil) p⟩
    · exact p.elim
  · exact p.elim
end
end Mx

end

section
set_option Elab.async false
set_option Elab.async false
set_option linter.all false
set_option maxRecDepth 100000
set_option maxHeartbeats 4000000
/-! Methods by values. -/
namespace Mx
open PySem PySem.Spec PyProof.Rows L2
section
variable {K : Wr} {Z : List Addr} {G : Hp} {ι : List Addr} {h : MH} {H : Hp} {exc : List Str} {E : XK} {Q : VK}
theorem RVs.dropLast {xs : List PV} {vs : List V} (r : RVs K G ι xs vs) : RVs K G ι xs.dropLast vs.dropLast := by
  rw [List.dropLast_eq_take, List.dropLast_eq_take, r.length]
  exact r.take _
theorem mets_pop {x : PV} {v : V} (R : HR K Z G ι h H) (rx : RV K G ι x v) (p : RP exc K (rV K) Z G ι H (popL x h) Q E) : rPop v [] H Q := by
  unfold popL at p
  split at p
  · split at p
    · rename_i xs e
      split at p
      · rename_i y ey
        obtain ⟨a, vs, rfl, hn, hH, rs⟩ := ref_lst R rx e
        obtain ⟨w, ew, rw'⟩ := rs.get ey
        refine ⟨a, vs, w, rfl, rfl, hH, by rw [← rs.length]; exact ew, put_lst R hn hH rs.dropLast (Q := fun H' => Q w H') fun G' ι' H' n => p G' ι' H' _ n (rw'.mono n.same n.pre)⟩
      · exact p.elim
    · exact p.elim
  · exact p.elim
theorem mets_popI {x y : PV} {v w : V} (R : HR K Z G ι h H) (rx : RV K G ι x v) (ry : RV K G ι y w) (p : RP exc K (rV K) Z G ι H (popI x y h) Q E) : rPopAt v [w] H Q := by
  unfold popI at p
  split at p
  · rename_i i
    rw [ry.int_inv]
    split at p
    · rename_i xs e
      split at p
      · rename_i k ek
        split at p
        · rename_i z ez
          split at p
          · rename_i hb
            obtain ⟨a, vs, rfl, hn, hH, rs⟩ := ref_lst R rx e
            obtain ⟨w, ew, rw'⟩ := rs.get ez
            exact ⟨a, vs, i, k, w, rfl, rfl, hH, hb.1, hb.2, by rw [← rs.length]; exact ek, ew, put_lst R hn hH (rs.eraseIdx k) (Q := fun H' => Q w H') fun G' ι' H' n => p G' ι' H' _ n (rw'.mono n.same n.pre)⟩
          · exact p.elim
        · exact p.elim
      · exact p.elim
    · exact p.elim
  · exact p.elim
def rInsert : V → List V → Hp → VK → Prop := fun x vs H Q => ∃ (l : Addr) (xs : List V) (i : Int) (y : V), x = .ref l ∧ vs = [.int i, y] ∧ H l = some (.lst xs) ∧ xs.length < sizeLine ∧ 0 ≤ i ∧ i < 2 ^ 63 ∧
    Q .non (upd H l (.lst (xs.take i.toNat ++ [y] ++ xs.drop i.toNat)))
theorem mets_insert {x y z : PV} {v w u : V} (R : HR K Z G ι h H) (rx : RV K G ι x v) (ry : RV K G ι y w) (rz : RV K G ι z u) (p : RP exc K (rV K) Z G ι H (insop x y z h) Q E) : rInsert v [w, u] H Q := by
  unfold insop at p
  split at p
  · rename_i i
    rw [ry.int_inv]
    split at p
    · rename_i xs e
      split at p
      · rename_i hb
        obtain ⟨a, vs, rfl, hn, hH, rs⟩ := ref_lst R rx e
        exact ⟨a, vs, i, u, rfl, rfl, hH, by rw [← rs.length]; exact hb.1, hb.2.1, hb.2.2, put_lst R hn hH (((rs.take _).append (.cons rz .nil)).append (rs.drop _)) (Q := fun H' => Q .non H') fun G' ι' H' n => p G' ι' H' _ n .non⟩
      · exact p.elim
    · exact p.elim
  · exact p.elim
theorem mets_reverse {x : PV} {v : V} (R : HR K Z G ι h H) (rx : RV K G ι x v) (p : RP exc K (rV K) Z G ι H (revI x h) Q E) : rReverse v [] H Q := by
  unfold revI at p
  split at p
  · split at p
    · rename_i xs e
      obtain ⟨a, vs, rfl, hn, hH, rs⟩ := ref_lst R rx e
      exact ⟨a, vs, rfl, rfl, hH, put_lst R hn hH rs.reverse (Q := fun H' => Q .non H') fun G' ι' H' n => p G' ι' H' _ n .non⟩
    · exact p.elim
  · exact p.elim
theorem mets_clear {x : PV} {v : V} (R : HR K Z G ι h H) (rx : RV K G ι x v) (p : RP exc K (rV K) Z G ι H (clrop x h) Q E) : rClear v [] H Q := by
  unfold clrop at p
  split at p
  · split at p
    · rename_i xs e
      obtain ⟨a, vs, rfl, hn, hH, rs⟩ := ref_lst R rx e
      exact ⟨a, vs, rfl, rfl, hH, put_lst R hn hH .nil (Q := fun H' => Q .non H') fun G' ι' H' n => p G' ι' H' _ n .non⟩
    · exact p.elim
  · exact p.elim
theorem findIdx_first {α : Type} {q : α → Bool} : ∀ {l : List α} {j : Nat}, l.findIdx? q = some j → ∃ z, l[j]? = some z ∧ q z = true ∧ ∀ (m : Nat) (z' : α), m < j → l[m]? = some z' → q z' = false
  | [], j, e => by simp at e
  | a :: l, j, e => by
    rw [List.findIdx?_cons] at e
    by_cases ha : q a = true
    · rw [if_pos ha] at e
      cases e
      exact ⟨a, rfl, ha, fun m z' hm => absurd hm (Nat.not_lt_zero _)⟩
    · rw [if_neg ha] at e
      cases e1 : l.findIdx? q with
      | none => rw [e1] at e; cases e
      | some k =>
        rw [e1] at e
        cases e
        obtain ⟨z, h1, h2, h3⟩ := findIdx_first e1
        refine ⟨z, by simpa using h1, h2, fun m z' hm hz => ?_⟩
        cases m with
        | zero => cases (show some a = some z' from hz); exact Bool.not_eq_true _ |>.mp ha
        | succ m => exact h3 m z' (Nat.lt_of_succ_lt_succ hm) (by simpa using hz)
theorem mets_index {x y : PV} {v w : V} (R : HR K Z G ι h H) (rx : RV K G ι x v) (ry : RV K G ι y w) (p : RP exc K (rV K) Z G ι H (indop x y h) Q E) : rIndexD K.K v [w] H Q := by
  unfold indop at p
  split at p
  · rename_i ds d e1 e2
    split at p
    · rename_i hz
      rw [Bool.and_eq_true] at hz
      split at p
      · rename_i j ej
        obtain ⟨z, h1, h2, h3⟩ := findIdx_first ej
        have d1 := dp_of R.sub (rd1_ok R) rx e1
        obtain ⟨a, rfl⟩ : ∃ a, v = V.ref a := by
          cases d1 with
          | lst _ _ => exact ⟨_, rfl⟩
        exact ⟨a, w, d, ds, j, z, rfl, rfl, d1, dp_of R.sub (rd1_ok R) ry e2, hz.1, hz.2, h1, h2, h3, RP.ok_here p R (.int _)⟩
      · exact p.elim
    · exact p.elim
  · exact p.elim
theorem mets_tindex {x y : PV} {v w : V} (R : HR K Z G ι h H) (rx : RV K G ι x v) (ry : RV K G ι y w) (p : RP exc K (rV K) Z G ι H (tixop x y h) Q E) : rTix K.K v [w] H Q := by
  unfold tixop at p
  split at p
  · rename_i xs k
    split at p
    · rename_i ss e
      split at p
      · rename_i hk
        obtain ⟨a, vs, rfl, hq, rs⟩ := rx.tup_inv
        have ev := strs_of rs e
        subst ev
        exact ⟨a, ss, k, rfl, by rw [ry.str_inv], (Same.seqN R.sub hq).sqT, hk, RP.ok_here p R (.int _)⟩
      · exact p.elim
    · exact p.elim
  · exact p.elim
theorem ok_tup {x : PV} {v : V} (R : HR K Z G ι h H) (rx : RV K G ι x v) (e : isTp x = true) : ∃ a vs, v = .ref a ∧ SqN K.K H a vs := by
  unfold isTp at e
  split at e
  · obtain ⟨a, vs, rfl, hq, _⟩ := rx.tup_inv
    exact ⟨a, vs, rfl, Same.seqN R.sub hq⟩
  · cases e
def rJoin (K : PySem.W.Frag) : V → List V → Hp → VK → Prop := fun x xs H Q => ∃ a p, ∃ ys : List Str, x = .str a ∧ xs = [.ref p] ∧ (SqL K H p (ys.map V.str) ∨ SqT K H p (ys.map V.str)) ∧
    (ys.map (·.length)).sum + ys.length * a.length ≤ 16777216 ∧ Q (.str (Txt.join a ys)) H
theorem mets_join {x y : PV} {v w : V} (R : HR K Z G ι h H) (rx : RV K G ι x v) (ry : RV K G ι y w) (p : RP exc K (rV K) Z G ι H (joinop x y h) Q E) : rJoin K.K v [w] H Q := by
  unfold joinop at p
  split at p
  · rename_i z xs e1
    rw [rx.str_inv]
    split at p
    · rename_i ys e2
      split at p
      · rename_i hz
        obtain ⟨a, vs, rfl, hq, rs⟩ := (items_of R ry e1).sq
        have ev := strs_of rs e2
        subst ev
        exact ⟨z, a, ys, rfl, rfl, hq, hz, RP.ok_here p R (.str _)⟩
      · exact p.elim
    · exact p.elim
  · exact p.elim
theorem mets_upper {x : PV} {v : V} (R : HR K Z G ι h H) (rx : RV K G ι x v) (p : RP exc K (rV K) Z G ι H (uppop x h) Q E) : ∃ a, v = .str a ∧ ([] : List V) = [] ∧ a.length ≤ 5592405 ∧ Q (.str (Txt.upper a)) H := by
  unfold uppop at p
  split at p
  · rename_i z
    rw [rx.str_inv]
    split at p
    · rename_i hz
      exact ⟨z, rfl, rfl, hz, RP.ok_here p R (.str _)⟩
    · exact p.elim
  · exact p.elim
/-- d.get(k, x) -/
theorem mets_get {x y z : PV} {v w u : V} {a : Addr} (R : HR K Z G ι h H) (rx : RV K G ι x v) (ry : RV K G ι y w) (rz : RV K G ι z u) (p : RP exc K (rV K) Z G ι H (getD x y z h) Q E) : ∃ a, v = .ref a ∧ ∃ o, DGet H a w o ∧ Q (o.getD u) H := by
  unfold getD at p
  split at p
  · rename_i kvs k e1 e2
    obtain ⟨a, qs, rfl, hd, rk⟩ := ditems_of R rx e1
    refine ⟨a, rfl, _, .inl ⟨qs, k, hd, keyV ry e2, rfl⟩, ?_⟩
    cases e3 : kget kvs k with
    | none =>
      rw [rk.none e3]
      rw [e3] at p
      exact RP.ok_here p R rz
    | some t =>
      obtain ⟨t', e4, rt⟩ := rk.at e3
      rw [e4]
      rw [e3] at p
      exact RP.ok_here p R rt
  · exact p.elim
/-- a changing dict, in the layer's heap -/
theorem ref_dic (R : HR K Z G ι h H) {n : Nat} {v : V} {ps : List (Key × PV)} (rx : RV K G ι (.ref n) v) (e : h[n]? = some (.dic ps)) : ∃ a qs, v = .ref a ∧ ι[n]? = some a ∧ H a = some (.dK qs) ∧ RK K G ι ps qs := by
  obtain ⟨a, rfl, hn⟩ := rx.ref_inv
  have ro := R.obj n a _ hn e
  generalize hH : H a = u at ro
  cases ro with
  | dic hk rs => exact ⟨a, _, rfl, hn, hH, rk_of hk rs⟩
theorem put_dic (R : HR K Z G ι h H) {n : Nat} {a : Addr} {ps : List (Key × PV)} {qs ws : List (Key × V)} (hn : ι[n]? = some a) (hH : H a = some (.dK ws)) (rk : RK K G ι ps qs) {Q : Hp → Prop} (p : ∀ G' ι' H', Nx K Z G ι H G' ι' (h.set n (.dic ps)) H' → Q H') : Q (upd H a (.dK qs)) :=
  p G ι _ ⟨Up.refl _, Pre.refl _, R.put hn (fun o w z => by rw [hH] at z; cases z) rk.toO, fun z hz => upd_ne fun e => (R.zz z hz).2.1 (e ▸ List.mem_of_getElem? hn)⟩
/-- d.pop(k, x) -/
theorem mets_popD {x y z : PV} {v w u : V} (R : HR K Z G ι h H) (rx : RV K G ι x v) (ry : RV K G ι y w) (rz : RV K G ι z u) (p : RP exc K (rV K) Z G ι H (popD x y z h) Q E) : ∃ a, v = .ref a ∧ ∃ kvs k, H a = some (.dK kvs) ∧ w = kV k ∧ (∀ v, valV kvs k = some v → Q v (upd H a (.dK (dropK kvs k)))) ∧ (valV kvs k = none → Q u H) := by
  unfold popD at p
  split at p
  · rename_i k e2
    split at p
    · rename_i kvs e
      obtain ⟨a, qs, rfl, hn, hH, rk⟩ := ref_dic R rx e
      refine ⟨a, rfl, qs, k, hH, keyV ry e2, fun t et => ?_, fun et => ?_⟩
      · cases e3 : kget kvs k with
        | none => rw [rk.none e3] at et; cases et
        | some t2 =>
          obtain ⟨t', e4, rt⟩ := rk.at e3
          rw [e4] at et
          have et' : t' = t := Option.some.inj et
          rw [← et']
          rw [e3] at p
          exact put_dic R hn hH (rk.drop k) (Q := fun H' => Q t' H') fun G' ι' H' n => p G' ι' H' _ n (rt.mono n.same n.pre)
      · cases e3 : kget kvs k with
        | none => rw [e3] at p; exact RP.ok_here p R rz
        | some t2 =>
          obtain ⟨t', e4, rt⟩ := rk.at e3
          rw [e4] at et; cases et
    · exact p.elim
  · exact p.elim
/-! ### what a method is asked of -/
theorem ok_lst (R : HR K Z G ι h H) {x : PV} {v : V} (rx : RV K G ι x v) (e : isLst h x = true) : tyV K.K "list" v H := by
  unfold isLst at e
  split at e
  · split at e
    · rename_i e2
      obtain ⟨a, vs, rfl, _, hH, _⟩ := ref_lst R rx e2
      exact Or.inl ⟨rfl, _, Or.inl (Or.inl hH)⟩
    · cases e
  · cases e
theorem ok_lsq (R : HR K Z G ι h H) {x : PV} {v : V} (rx : RV K G ι x v) (e : isLsq h x = true) : tyV K.K "list" v H := by
  unfold isLsq at e
  cases e1 : litems h x with
  | none => rw [e1] at e; cases e
  | some xs =>
    obtain ⟨a, vs, rfl, hd, _⟩ := litems_of R rx e1
    exact Or.inl ⟨rfl, _, Or.inl hd⟩
theorem ok_str {x : PV} {v : V} (rx : RV K G ι x v) (e : isStr x = true) : ∃ a, v = .str a := by
  unfold isStr at e
  split at e
  · exact ⟨_, rx.str_inv⟩
  · cases e
theorem ok_dic (R : HR K Z G ι h H) {x : PV} {v : V} (rx : RV K G ι x v) (e : isDic h x = true) : ∃ a, v = .ref a ∧ IsD H a := by
  unfold isDic at e
  cases e1 : ditems h x with
  | none => rw [e1] at e; cases e
  | some kvs =>
    obtain ⟨a, qs, rfl, hd, _⟩ := ditems_of R rx e1
    exact ⟨a, rfl, .inl ⟨qs, hd⟩⟩
end
end Mx

end

section
set_option Elab.async false
set_option Elab.async false
set_option linter.all false
set_option maxRecDepth 100000
set_option maxHeartbeats 4000000
/-! Each form of an expression: the layer's rule, at what the small language does. -/
namespace Mx
open PySem PySem.Spec PyProof.Rows L2

abbrev kx (X : Cx) : Wr := ⟨X.K, X.mg⟩
section
variable {X : Cx} {exc : List Str} {W : WX} {a b c : Expr} {ra rb rc : Env' → MH → Res PV} {pos : Pos}

theorem tOp_weak {r : R2} {f : PV → PV → MH → Res PV} {K : Wr} (k : OpS exc K f r) {σ : L2.St} {H : Hp} {Q : VK} (h : tE exc K W (fun ρ h => (ra ρ h).bind fun x h => (rb ρ h).bind fun y h => f x y h) σ H Q) :
    tOp r (tE exc K W ra) (tE exc K W rb) σ H Q := by
  obtain ⟨Z, G, ι, h, ρ, R, S, p⟩ := h
  refine ⟨Z, G, ι, h, ρ, R, S, p.bind fun x h1 G1 ι1 H1 vx n1 rx p1 => ?_⟩
  refine ⟨Z, G1, ι1, h1, ρ, n1.hr, S.mono n1.same n1.pre, p1.bind fun y h2 G2 ι2 H2 vy n2 ry p2 => ?_⟩
  exact k Z G2 ι2 h2 H2 x y vx vy Q _ n2.hr (rx.mono n2.same n2.pre) ry p2
theorem me_op {op : Operator} {r : R2} {f : PV → PV → MH → Res PV} (ho : OpR X (binaryOp op) r) (k : OpS exc (kx X) f r) (ha : PE X a (tE exc (kx X) W ra)) (hb : PE X b (tE exc (kx X) W rb)) :
    PE X (.BinOp a op b pos) (tE exc (kx X) W fun ρ h => (ra ρ h).bind fun x h => (rb ρ h).bind fun y h => f x y h) := (pe_op ho ha hb).weak fun _ _ _ q => tOp_weak k q
theorem me_bin {bo : Bo} {op : Operator} {r : Bool} (hm : boM bo op = true) (ha : PE X a (tE exc (kx X) W ra)) (hb : PE X b (tE exc (kx X) W rb)) :
    PE X (.BinOp a op b pos) (tE exc (kx X) W fun ρ h => (ra ρ h).bind fun x h => (rb ρ h).bind fun y h => binop bo r x y h) := by
  cases bo <;> cases op <;> first | cases hm | skip
  · exact me_op op_addAll (ops_add (K := kx X)) ha hb
  · exact me_op op_sub (ops_sub (K := kx X)) ha hb
  · exact me_op op_mulAll (ops_mul (K := kx X)) ha hb
  · exact me_op op_fdivF (ops_div (K := kx X)) ha hb
  · exact me_op op_modN (ops_mod (K := kx X)) ha hb
  · exact me_op op_powW (ops_pow (K := kx X)) ha hb
theorem ops_isB {K : Wr} : OpS exc K (cmpR .isB) rIsB := by
  intro Z G ι h H x y vx vy Q E R rx ry p
  replace p : RP exc K (rV K) Z G ι H (ofB (isBl x y) h) Q E := p
  unfold isBl at p
  split at p
  · rename_i a b
    rw [rx.bl_inv, ry.bl_inv]
    exact ⟨a, b, rfl, rfl, RP.ok_here p R (.bl _)⟩
  · exact p.elim
theorem ops_isntB {K : Wr} : OpS exc K (cmpR .isntB) rNotB := by
  intro Z G ι h H x y vx vy Q E R rx ry p
  replace p : RP exc K (rV K) Z G ι H (ofB ((isBl x y).map (!·)) h) Q E := p
  unfold isBl at p
  split at p
  · rename_i a b
    rw [rx.bl_inv, ry.bl_inv]
    exact ⟨a, b, rfl, rfl, RP.ok_here p R (.bl _)⟩
  · exact p.elim
/-- the rule for a comparison and what it gives -/
theorem cmp_rule {co : Co} {op : CmpOp} (hm : coM co op = true) (hu : X.A.units + 64 < cLine) : ∃ r, OpR X (compareOp op) r ∧ OpS exc (kx X) (cmpR co) r := by
  cases co <;> cases op <;> first | cases hm | skip
  · exact ⟨_, op_eqAll hu, ops_eq⟩
  · exact ⟨_, op_neAll hu, ops_ne⟩
  · exact ⟨_, op_ltAll, ops_lt⟩
  · exact ⟨_, op_leAll, ops_le⟩
  · exact ⟨_, op_gtAll, ops_gt⟩
  · exact ⟨_, op_geAll, ops_ge⟩
  · exact ⟨_, op_isN, ops_isN⟩
  · exact ⟨_, op_notN, ops_isntN⟩
  · exact ⟨_, op_isBl, ops_isB⟩
  · exact ⟨_, op_notBl, ops_isntB⟩
  · exact ⟨_, op_inAll hu, ops_in⟩
  · exact ⟨_, op_ninAll hu, ops_nin⟩
/-- no set display -/
def isSet : Expr → Bool
  | .Set _ _ _ => true
  | _ => false
theorem behind_of {b : Expr} {op : CmpOp} (h : isSet b = false) : behindInMarks op b = false := by
  cases b <;> first | rfl | cases h
theorem ofB_ok {o : Option Bool} {h : MH} {K : Wr} {Z : List Addr} {G : Hp} {ι : List Addr} {H : Hp} {Q : VK} {E : XK} (R : HR K Z G ι h H) (p : RP exc K (rV K) Z G ι H (ofB o h) Q E) : ∃ k, o = some k ∧ Q (.bl k) H := by
  cases o with
  | none => exact p.elim
  | some k => exact ⟨k, rfl, RP.ok_here p R (.bl k)⟩
theorem me_cmp {co : Co} {op : CmpOp} (hm : coM co op = true) (hu : X.A.units + 64 < cLine) (hs : isSet b = false) (ha : PE X a (tE exc (kx X) W ra)) (hb : PE X b (tE exc (kx X) W rb)) :
    PE X (.Compare a [op] [b] pos) (tE exc (kx X) W fun ρ h => (ra ρ h).bind fun x h => (rb ρ h).bind fun y h => ofB (cmpop co x y h) h) := by
  obtain ⟨r, ho, k⟩ := cmp_rule (X := X) (exc := exc) hm hu
  exact (pe_cmpR ho ha hb (behind_of hs)).weak fun _ _ _ q => tOp_weak (f := cmpR co) k q
/-- a run's truth -/
def truR (r : Env' → MH → Res PV) : Env' → MH → Res Bool := fun ρ h => (r ρ h).bind fun x h => match truthy h x with
  | some b => .ok b h
  | none => .stuck
theorem Res.assoc {α β γ : Type} (r : Res α) (f : α → MH → Res β) (g : β → MH → Res γ) : (r.bind f).bind g = r.bind fun a h => (f a h).bind g := by cases r <;> rfl
def ofO (o : Option Bool) (h : MH) : Res Bool := match o with
  | some b => .ok b h
  | none => .stuck
/-- a run that tells a bool -/
def blR (r : Res Bool) : Res PV := r.bind fun b h => .ok (.bl b) h
theorem ofB_eq (o : Option Bool) (h : MH) : ofB o h = blR (ofO o h) := by cases o <;> rfl
theorem blR_bind {α : Type} (r : Res α) (f : α → MH → Res Bool) : (r.bind fun a h => blR (f a h)) = blR (r.bind f) := (Res.assoc _ _ _).symm
theorem tru_blR (r : Res Bool) : ((blR r).bind fun x h => match truthy h x with
  | some b => .ok b h
  | none => .stuck) = r := by cases r <;> rfl
theorem blR_T {K : Wr} {Z : List Addr} {G : Hp} {ι : List Addr} {H : Hp} {r : Res Bool} {Q : Bool → Hp → Prop} {E : XK} (p : RP exc K (rId (α := Bool)) Z G ι H r Q E) : RP exc K (rV K) Z G ι H (blR r) (fun x H => ∃ k, x = .bl k ∧ Q k H) E := by
  cases r with
  | stuck => exact p
  | exn c v h => exact p
  | ok k h =>
    intro G' ι' H' b n r
    cases r
    exact ⟨k, rfl, p G' ι' H' k n rfl⟩
/-- the test of what tells a bool -/
theorem tT_bl {K : Wr} {r : Env' → MH → Res Bool} {σ : L2.St} {H : Hp} {Q : Bool → Hp → Prop} (q : tT exc K W (truR fun ρ h => blR (r ρ h)) σ H Q) : tE exc K W (fun ρ h => blR (r ρ h)) σ H (fun x H' => ∃ k, x = .bl k ∧ Q k H') := by
  obtain ⟨Z, G, ι, h, ρ, R, S, p⟩ := q
  refine ⟨Z, G, ι, h, ρ, R, S, blR_T ?_⟩
  unfold truR at p
  rw [tru_blR] at p
  exact p
theorem cmp_bl {co : Co} (ra rb : Env' → MH → Res PV) : (fun ρ h => (ra ρ h).bind fun x h => (rb ρ h).bind fun y h => ofB (cmpop co x y h) h) = fun ρ h => blR ((ra ρ h).bind fun x h => (rb ρ h).bind fun y h => ofO (cmpop co x y h) h) := by
  funext ρ h
  simp only [ofB_eq, blR_bind]
theorem mt_cmp {co : Co} {op : CmpOp} (hm : coM co op = true) (hu : X.A.units + 64 < cLine) (hs : isSet b = false) (ha : PE X a (tE exc (kx X) W ra)) (hb : PE X b (tE exc (kx X) W rb)) :
    PT X (.Compare a [op] [b] pos) (tT exc (kx X) W (truR fun ρ h => (ra ρ h).bind fun x h => (rb ρ h).bind fun y h => ofB (cmpop co x y h) h)) := by
  obtain ⟨r, ho, k⟩ := cmp_rule (X := X) (exc := exc) hm hu
  refine (pt_cmpR ho ha hb (behind_of hs)).weak fun σ H Q q => ?_
  show tOp r _ _ σ H (fun x H' => ∃ k, x = .bl k ∧ Q k H')
  refine tOp_weak (f := cmpR co) k ?_
  rw [cmp_bl] at q
  have := tT_bl q
  rw [← cmp_bl] at this
  exact this
theorem tChain_weak {r r' : R2} {co co' : Co} {K : Wr} (k : OpS exc K (cmpR co) r) (k' : OpS exc K (cmpR co') r') {σ : L2.St} {H : Hp} {Q : VK}
    (h : tE exc K W (fun ρ h => (ra ρ h).bind fun x h => (rb ρ h).bind fun y h => match cmpop co x y h with
      | some true => (rc ρ h).bind fun z h => ofB (cmpop co' y z h) h
      | some false => .ok (.bl false) h
      | none => .stuck) σ H Q) :
    tChain r r' (tE exc K W ra) (tE exc K W rb) (tE exc K W rc) σ H Q := by
  obtain ⟨Z, G, ι, h, ρ, R, S, p⟩ := h
  refine ⟨Z, G, ι, h, ρ, R, S, p.bind fun x h1 G1 ι1 H1 vx n1 rx p1 => ?_⟩
  refine ⟨Z, G1, ι1, h1, ρ, n1.hr, S.mono n1.same n1.pre, p1.bind fun y h2 G2 ι2 H2 vy n2 ry p2 => ?_⟩
  refine k Z G2 ι2 h2 H2 x y vx vy _ (fun _ _ _ => False) n2.hr (rx.mono n2.same n2.pre) ry ?_
  unfold cmpR
  cases e : cmpop co x y h2 with
  | none => rw [e] at p2; exact p2.elim
  | some t =>
    intro G3 ι3 H3 z n3 rz
    cases rz
    refine ⟨t, rfl, ?_⟩
    rw [e] at p2
    cases t with
    | false => exact p2 G3 ι3 H3 _ n3 (.bl _)
    | true =>
      rw [if_pos rfl]
      refine ⟨Z, G3, ι3, h2, ρ, n3.hr, S.mono (n1.same.trans (n2.same.trans n3.same)) (n1.pre.trans (n2.pre.trans n3.pre)), (RP.later p2 n3).bind fun z h4 G4 ι4 H4 vz n4 rz p4 => ?_⟩
      exact k' Z G4 ι4 h4 H4 y z vy vz Q _ n4.hr (ry.mono (n3.same.trans n4.same) (n3.pre.trans n4.pre)) rz p4
theorem me_chain {co co' : Co} {op op' : CmpOp} (hm : coM co op = true) (hm' : coM co' op' = true) (hu : X.A.units + 64 < cLine) (hs : isSet b = false) (hs' : isSet c = false) (ha : PE X a (tE exc (kx X) W ra)) (hb : PE X b (tE exc (kx X) W rb)) (hc : PE X c (tE exc (kx X) W rc)) :
    PE X (.Compare a [op, op'] [b, c] pos) (tE exc (kx X) W fun ρ h => (ra ρ h).bind fun x h => (rb ρ h).bind fun y h => match cmpop co x y h with
      | some true => (rc ρ h).bind fun z h => ofB (cmpop co' y z h) h
      | some false => .ok (.bl false) h
      | none => .stuck) := by
  obtain ⟨r, ho, k⟩ := cmp_rule (X := X) (exc := exc) hm hu
  obtain ⟨r', ho', k'⟩ := cmp_rule (X := X) (exc := exc) hm' hu
  exact (pe_chain ho ho' ha hb hc (by unfold lastMarks; exact behind_of hs')).weak fun _ _ _ q => tChain_weak k k' q
theorem chain_bl {co co' : Co} (ra rb rc : Env' → MH → Res PV) : (fun ρ h => (ra ρ h).bind fun x h => (rb ρ h).bind fun y h => match cmpop co x y h with
      | some true => (rc ρ h).bind fun z h => ofB (cmpop co' y z h) h
      | some false => .ok (.bl false) h
      | none => .stuck) = fun (ρ : Env') (h : MH) => blR ((ra ρ h).bind fun x h => (rb ρ h).bind fun y h => match cmpop co x y h with
      | some true => (rc ρ h).bind fun z h => ofO (cmpop co' y z h) h
      | some false => .ok false h
      | none => .stuck) := by
  funext ρ h
  rw [← blR_bind]
  congr 1
  funext x h
  rw [← blR_bind]
  congr 1
  funext y h
  cases cmpop co x y h with
  | none => rfl
  | some t => cases t with
    | false => rfl
    | true => simp only [ofB_eq, blR_bind]
theorem mt_chain {co co' : Co} {op op' : CmpOp} (hm : coM co op = true) (hm' : coM co' op' = true) (hu : X.A.units + 64 < cLine) (hs : isSet b = false) (hs' : isSet c = false) (ha : PE X a (tE exc (kx X) W ra)) (hb : PE X b (tE exc (kx X) W rb)) (hc : PE X c (tE exc (kx X) W rc)) :
    PT X (.Compare a [op, op'] [b, c] pos) (tT exc (kx X) W (truR fun ρ h => (ra ρ h).bind fun x h => (rb ρ h).bind fun y h => match cmpop co x y h with
      | some true => (rc ρ h).bind fun z h => ofB (cmpop co' y z h) h
      | some false => .ok (.bl false) h
      | none => .stuck)) := by
  obtain ⟨r, ho, k⟩ := cmp_rule (X := X) (exc := exc) hm hu
  obtain ⟨r', ho', k'⟩ := cmp_rule (X := X) (exc := exc) hm' hu
  refine (pt_chain ho ho' ha hb hc (by unfold lastMarks; exact behind_of hs')).weak fun σ H Q q => ?_
  show tChain r r' _ _ _ σ H (fun x H' => ∃ k, x = .bl k ∧ Q k H')
  refine tChain_weak (co := co) (co' := co') k k' ?_
  rw [chain_bl] at q
  have := tT_bl q
  rw [← chain_bl] at this
  exact this

/-! ### names, constants, displays -/
theorem me_var {i : Nat} {x : Str} (hN : X.N[i]? = some x) (hv : Vis X.env.scope x) (hd : (x == ("__debug__" : Str)) = false) (hcd : (x == ("__classdict__" : Str)) = false) :
    PE X (.Name x pos) (tE exc (kx X) W fun ρ h => match ρ[i]? with
      | some (some x) => .ok x h
      | _ => .stuck) := by
  refine (pe_var hN hv hd hcd).weak fun σ H Q q => ?_
  obtain ⟨Z, G, ι, h, ρ, R, S, p⟩ := q
  dsimp only at p
  split at p
  · rename_i x e
    obtain ⟨v, e2, rv⟩ := S.2 i x e
    exact ⟨v, e2, RP.ok_here p R rv⟩
  · exact p.elim
theorem tC_weak {K : Wr} {x : PV} {v : V} (r : ∀ G ι, RV K G ι x v) {σ : L2.St} {H : Hp} {Q : VK} (q : tE exc K W (fun _ h => .ok x h) σ H Q) : tC v σ H Q := by
  obtain ⟨Z, G, ι, h, ρ, R, S, p⟩ := q
  exact RP.ok_here p R (r G ι)
theorem me_non {j pos} : PE X (.Constant .none j pos) (tE exc (kx X) W fun _ h => .ok .non h) := pe_non.weak fun _ _ _ q => tC_weak (fun _ _ => .non) q
theorem me_bl {b j pos} : PE X (.Constant (.bool b) j pos) (tE exc (kx X) W fun _ h => .ok (.bl b) h) := pe_bl.weak fun _ _ _ q => tC_weak (fun _ _ => .bl b) q
theorem me_int {i j pos} : PE X (.Constant (.int i) j pos) (tE exc (kx X) W fun _ h => .ok (.int i) h) := pe_int.weak fun _ _ _ q => tC_weak (fun _ _ => .int i) q
theorem me_str {x j pos} : PE X (.Constant (.str x) j pos) (tE exc (kx X) W fun _ h => .ok (.str x) h) := pe_str.weak fun _ _ _ q => tC_weak (fun _ _ => .str x) q
theorem me_con {x : Str} {v : PV} {u : Value} {y : V} (hg : Gl X x) (hm : X.mg x = some u) (r : RelV y u) (hr : ∀ G ι, RV (kx X) G ι v y) (hd : (x == ("__debug__" : Str)) = false) : PE X (.Name x pos) (tE exc (kx X) W fun _ h => .ok v h) :=
  (pe_glob hg hm r hd).weak fun _ _ _ q => tC_weak hr q
theorem me_nil : PA X [] (tA exc (kx X) W fun _ h => .ok [] h) := pa_nil.weak fun σ H Q q => by
  obtain ⟨Z, G, ι, h, ρ, R, S, p⟩ := q
  exact RP.ok_here p R .nil
theorem me_cons {e : Expr} {es : List Expr} {r : Env' → MH → Res PV} {rs : Env' → MH → Res (List PV)} (ha : PE X e (tE exc (kx X) W r)) (hr : PA X es (tA exc (kx X) W rs)) (hs : starEach (e :: es) X.env = (false, eval e X.env) :: starEach es X.env) :
    PA X (e :: es) (tA exc (kx X) W fun ρ h => (r ρ h).bind fun x h => (rs ρ h).bind fun xs h => .ok (x :: xs) h) := by
  refine (pa_cons ha hr hs).weak fun σ H Q q => ?_
  obtain ⟨Z, G, ι, h, ρ, R, S, p⟩ := q
  refine ⟨Z, G, ι, h, ρ, R, S, p.bind fun x h1 G1 ι1 H1 vx n1 rx p1 => ?_⟩
  refine ⟨Z, G1, ι1, h1, ρ, n1.hr, S.mono n1.same n1.pre, p1.bind fun y h2 G2 ι2 H2 vy n2 ry p2 => ?_⟩
  exact RP.ok_here p2 n2.hr (.cons (rx.mono n2.same n2.pre) ry)
theorem me_tup {es : List Expr} {k} {rs : Env' → MH → Res (List PV)} (ha : PA X es (tA exc (kx X) W rs)) (hl : ∀ ρ h xs h', rs ρ h = .ok xs h' → xs.length ≤ 1000) : PE X (.Tuple es k pos) (tE exc (kx X) W fun ρ h => (rs ρ h).bind fun xs h => .ok (.tup xs) h) := by
  refine (pe_tupN ha).weak fun σ H Q q => ?_
  obtain ⟨Z, G, ι, h, ρ, R, S, p⟩ := q
  refine ⟨Z, G, ι, h, ρ, R, S, ?_⟩
  have len := hl ρ h
  dsimp only at p
  generalize rs ρ h = r at p len
  cases r with
  | stuck => exact p
  | exn c v h => exact p
  | ok xs h1 =>
    intro G1 ι1 H1 vs n1 rv
    have z := len xs h1 rfl
    exact ⟨by rw [← rv.length, sizeLine_eq]; omega, mk_tup n1.hr rv (RP.later p n1)⟩
theorem me_lst {es : List Expr} {rs : Env' → MH → Res (List PV)} {b : Bool} (ha : PA X es (tA exc (kx X) W rs)) (hl : ∀ ρ h xs h', rs ρ h = .ok xs h' → xs.length ≤ 1000) : PE X (.List es pos) (tE exc (kx X) W fun ρ h => (rs ρ h).bind fun xs h => mkLst b xs h) := by
  refine (pe_lst ha).weak fun σ H Q q => ?_
  obtain ⟨Z, G, ι, h, ρ, R, S, p⟩ := q
  refine ⟨Z, G, ι, h, ρ, R, S, ?_⟩
  have len := hl ρ h
  dsimp only at p
  generalize rs ρ h = r at p len
  cases r with
  | stuck => exact p
  | exn c v h => exact p
  | ok xs h1 =>
    intro G1 ι1 H1 vs n1 rv
    have z := len xs h1 rfl
    exact ⟨by rw [← rv.length, sizeLine_eq]; omega, mk_lst n1.hr rv (RP.later p n1)⟩
theorem me_neg (ha : PE X a (tE exc (kx X) W ra)) : PE X (.UnaryOp .USub a pos) (tE exc (kx X) W fun ρ h => (ra ρ h).bind fun x h => match x with
    | .int i => .ok (.int (-i)) h
    | _ => .stuck) := by
  refine (pe_un un_neg ha).weak fun σ H Q q => ?_
  obtain ⟨Z, G, ι, h, ρ, R, S, p⟩ := q
  refine ⟨Z, G, ι, h, ρ, R, S, p.bind fun x h1 G1 ι1 H1 vx n1 rx p1 => ?_⟩
  split at p1
  · rename_i i
    exact ⟨i, rx.int_inv, RP.ok_here p1 n1.hr (.int _)⟩
  · exact p1.elim
theorem me_not (ha : PE X a (tE exc (kx X) W ra)) : PE X (.UnaryOp .Not a pos) (tE exc (kx X) W fun ρ h => (ra ρ h).bind fun x h => ofB ((truthy h x).map (!·)) h) := by
  refine (pe_notT ha).weak fun σ H Q q => ?_
  obtain ⟨Z, G, ι, h, ρ, R, S, p⟩ := q
  refine ⟨Z, G, ι, h, ρ, R, S, p.bind fun x h1 G1 ι1 H1 vx n1 rx p1 => ?_⟩
  cases e : truthy h1 x with
  | none => rw [e] at p1; exact p1.elim
  | some k =>
    rw [e] at p1
    exact ⟨k, tru_of n1.hr rx e, RP.ok_here p1 n1.hr (.bl _)⟩
theorem me_one {op} {r : Env' → MH → Res PV} (ha : PE X a (tE exc (kx X) W r)) : PE X (.BoolOp op [a] pos) (tE exc (kx X) W r) := pe_one ha
theorem me_and {e : Expr} {rest : List Expr} {r rr : Env' → MH → Res PV} (ha : PE X a (tE exc (kx X) W r)) (hb : PE X (.BoolOp .And (e :: rest) pos) (tE exc (kx X) W rr)) :
    PE X (.BoolOp .And (a :: e :: rest) pos) (tE exc (kx X) W fun ρ h => (r ρ h).bind fun x h => match truthy h x with
      | some true => rr ρ h
      | some false => .ok x h
      | none => .stuck) := by
  refine (pe_andT ha hb).weak fun σ H Q q => ?_
  obtain ⟨Z, G, ι, h, ρ, R, S, p⟩ := q
  refine ⟨Z, G, ι, h, ρ, R, S, p.bind fun x h1 G1 ι1 H1 vx n1 rx p1 => ?_⟩
  cases e : truthy h1 x with
  | none => rw [e] at p1; exact p1.elim
  | some k =>
    rw [e] at p1
    refine ⟨k, tru_of n1.hr rx e, ?_⟩
    cases k with
    | true => exact ⟨Z, G1, ι1, h1, ρ, n1.hr, S.mono n1.same n1.pre, p1⟩
    | false => exact RP.ok_here p1 n1.hr rx
theorem me_or {e : Expr} {rest : List Expr} {r rr : Env' → MH → Res PV} (ha : PE X a (tE exc (kx X) W r)) (hb : PE X (.BoolOp .Or (e :: rest) pos) (tE exc (kx X) W rr)) :
    PE X (.BoolOp .Or (a :: e :: rest) pos) (tE exc (kx X) W fun ρ h => (r ρ h).bind fun x h => match truthy h x with
      | some true => .ok x h
      | some false => rr ρ h
      | none => .stuck) := by
  refine (pe_orT ha hb).weak fun σ H Q q => ?_
  obtain ⟨Z, G, ι, h, ρ, R, S, p⟩ := q
  refine ⟨Z, G, ι, h, ρ, R, S, p.bind fun x h1 G1 ι1 H1 vx n1 rx p1 => ?_⟩
  cases e : truthy h1 x with
  | none => rw [e] at p1; exact p1.elim
  | some k =>
    rw [e] at p1
    refine ⟨k, tru_of n1.hr rx e, ?_⟩
    cases k with
    | false => exact ⟨Z, G1, ι1, h1, ρ, n1.hr, S.mono n1.same n1.pre, p1⟩
    | true => exact RP.ok_here p1 n1.hr rx
theorem me_ifx {r : Env' → MH → Res PV} (hc : PT X c (tT exc (kx X) W (truR r))) (ha : PE X a (tE exc (kx X) W ra)) (hb : PE X b (tE exc (kx X) W rb)) :
    PE X (.IfExp c a b pos) (tE exc (kx X) W fun ρ h => (r ρ h).bind fun x h => match truthy h x with
      | some true => ra ρ h
      | some false => rb ρ h
      | none => .stuck) := by
  refine (pe_ifExp hc ha hb).weak fun σ H Q q => ?_
  obtain ⟨Z, G, ι, h, ρ, R, S, p⟩ := q
  refine ⟨Z, G, ι, h, ρ, R, S, ?_⟩
  have e : ((r ρ h).bind fun x h => match truthy h x with
      | some true => ra ρ h
      | some false => rb ρ h
      | none => .stuck) = (truR r ρ h).bind fun t h => if t = true then ra ρ h else rb ρ h := by
    unfold truR
    rw [Res.assoc]
    congr 1
    funext x h
    cases truthy h x with
    | none => rfl
    | some t => cases t <;> rfl
  dsimp only at p
  rw [e] at p
  refine p.bind fun t h1 G1 ι1 H1 t' n1 et p1 => ?_
  cases et
  cases t with
  | true => exact ⟨Z, G1, ι1, h1, ρ, n1.hr, S.mono n1.same n1.pre, p1⟩
  | false => exact ⟨Z, G1, ι1, h1, ρ, n1.hr, S.mono n1.same n1.pre, p1⟩
theorem plainIx_of {b : Expr} (h : isSlice b = false) : PlainIx b := by
  intro o i
  cases b <;> first | rfl | cases h
theorem me_ix (hu : X.A.units + 64 < cLine) (hs : isSlice b = false) (ha : PE X a (tE exc (kx X) W ra)) (hb : PE X b (tE exc (kx X) W rb)) :
    PE X (.Subscript a b pos) (tE exc (kx X) W fun ρ h => (ra ρ h).bind fun x h => (rb ρ h).bind fun y h => ixop x y h) :=
  (pe_ix (ix_all hu) ha hb (plainIx_of hs)).weak fun _ _ _ q => tOp_weak (K := kx X) ops_ix q
theorem mo_none : PO X none (tOi exc (kx X) W fun _ h => .ok none h) := po_none.weak fun σ H Q q => by
  obtain ⟨Z, G, ι, h, ρ, R, S, p⟩ := q
  exact RP.ok_here p R rfl
theorem mo_some {e : Expr} {r : Env' → MH → Res PV} (he : PE X e (tE exc (kx X) W r)) : PO X (some e) (tOi exc (kx X) W fun ρ h => (r ρ h).bind fun x h => match x with
    | .int i => .ok (some i) h
    | _ => .stuck) := by
  refine (po_some he).weak fun σ H Q q => ?_
  obtain ⟨Z, G, ι, h, ρ, R, S, p⟩ := q
  refine ⟨Z, G, ι, h, ρ, R, S, p.bind fun x h1 G1 ι1 H1 vx n1 rx p1 => ?_⟩
  split at p1
  · rename_i i
    exact ⟨i, rx.int_inv, RP.ok_here p1 n1.hr rfl⟩
  · exact p1.elim
theorem me_sl {lo hi : Option Expr} {p2 : Pos} {r : Bool} {rl rh : Env' → MH → Res (Option Int)} (ha : PE X a (tE exc (kx X) W ra)) (hl : PO X lo (tOi exc (kx X) W rl)) (hh : PO X hi (tOi exc (kx X) W rh)) :
    PE X (.Subscript a (.Slice lo hi none p2) pos) (tE exc (kx X) W fun ρ h => (ra ρ h).bind fun x h => (rl ρ h).bind fun l h => (rh ρ h).bind fun u h => slop r x l u h) := by
  refine (pe_slice sl_all ha hl hh).weak fun σ H Q q => ?_
  obtain ⟨Z, G, ι, h, ρ, R, S, p⟩ := q
  refine ⟨Z, G, ι, h, ρ, R, S, p.bind fun x h1 G1 ι1 H1 vx n1 rx p1 => ?_⟩
  refine ⟨Z, G1, ι1, h1, ρ, n1.hr, S.mono n1.same n1.pre, p1.bind fun l h2 G2 ι2 H2 l' n2 el p2 => ?_⟩
  refine ⟨Z, G2, ι2, h2, ρ, n2.hr, S.mono (n1.same.trans n2.same) (n1.pre.trans n2.pre), p2.bind fun u h3 G3 ι3 H3 u' n3 eu p3 => ?_⟩
  cases el
  cases eu
  exact ops_sl n3.hr (rx.mono (n2.same.trans n3.same) (n2.pre.trans n3.pre)) p3
/-! ### built-ins -/
theorem tCB_weak {r : List V → Hp → VK → Prop} {K : Wr} {f : List PV → MH → Res PV} {rs : Env' → MH → Res (List PV)} (k : CallS exc K f r) {σ : L2.St} {H : Hp} {Q : VK} (h : tE exc K W (fun ρ h => (rs ρ h).bind fun xs h => f xs h) σ H Q) : tCB r (tA exc K W rs) σ H Q := by
  obtain ⟨Z, G, ι, h, ρ, R, S, p⟩ := h
  exact ⟨Z, G, ι, h, ρ, R, S, p.bind fun x h1 G1 ι1 H1 vx n1 rx p1 => k Z G1 ι1 h1 H1 x vx Q _ n1.hr rx p1⟩
theorem me_blt {f : Bi} {r : Bool} {x : Str} {p : Pos} {e : Expr} {es : List Expr} {rs : Env' → MH → Res (List PV)} (hx : biN f = x) (hg : Gl X x) (hc : biC f = false → X.calm = true) (hgd : X.A.guards = some []) (hun : X.A.units + 64 < cLine) (hm : if f = .gcd then X.mg "gcd" = some (.builtin "math.gcd") else X.mg x = none)
    (ha : PA X (e :: es) (tA exc (kx X) W rs)) (hdb : (x == ("__debug__" : Str)) = false) (he : starEach (e :: es) X.env = (false, eval e X.env) :: starEach es X.env) (hpl : (backTo pos (starEach es X.env)).any (·.1) = false) :
    PE X (.Call (.Name x p) (e :: es) [] pos) (tE exc (kx X) W fun ρ h => (rs ρ h).bind fun xs h => bltop f r xs h) := by
  subst hx
  cases f with
  | len => exact (pe_callB call_lenAll hg hm (by decide +kernel) ha (by decide) hdb he hpl).weak fun _ _ _ q => tCB_weak (K := kx X) calls_len q
  | abs => exact (pe_callB call_abs hg hm (by decide +kernel) ha (by decide) hdb he hpl).weak fun _ _ _ q => tCB_weak (K := kx X) calls_abs q
  | min => exact (pe_callB (call_min2 (hc rfl)) hg hm (by decide +kernel) ha (by decide) hdb he hpl).weak fun _ _ _ q => tCB_weak (K := kx X) calls_min q
  | max => exact (pe_callB (call_max2 (hc rfl)) hg hm (by decide +kernel) ha (by decide) hdb he hpl).weak fun _ _ _ q => tCB_weak (K := kx X) calls_max q
  | int => exact (pe_callTy call_int1 hg hm (by decide +kernel) ha (by decide) hdb he hpl).weak fun _ _ _ q => tCB_weak (K := kx X) calls_int q
  | tuple => exact (pe_callTy call_tupN hg hm (by decide +kernel) ha (by decide) hdb he hpl).weak fun _ _ _ q => tCB_weak (K := kx X) calls_tuple q
  | list => exact (pe_callTy call_list_of hg hm (by decide +kernel) ha (by decide) hdb he hpl).weak fun _ _ _ q => tCB_weak (K := kx X) calls_list q
  | any => exact (pe_callB (cr_any (hc rfl)) hg hm (by decide +kernel) ha (by decide) hdb he hpl).weak fun _ _ _ q => tCB_weak (K := kx X) calls_any q
  | all => exact (pe_callB (cr_all (hc rfl)) hg hm (by decide +kernel) ha (by decide) hdb he hpl).weak fun _ _ _ q => tCB_weak (K := kx X) calls_all q
  | gcd => exact (pe_callBfun cr_gcd hg hm ha hdb he hpl).weak fun _ _ _ q => tCB_weak (K := kx X) calls_gcd q
  | sorted => exact (pe_callB (cr_sortAll (hc rfl)) hg hm (by decide +kernel) ha (by decide) hdb he hpl).weak fun _ _ _ q => tCB_weak (K := kx X) calls_sorted q
  | dict => exact (pe_callTy (call_dictAll (hc rfl)) hg hm (by decide +kernel) ha (by decide) hdb he hpl).weak fun _ _ _ q => tCB_weak (K := kx X) calls_dict q
  | sum => exact (pe_callB (cr_sum (hc rfl)) hg hm (by decide +kernel) ha (by decide) hdb he hpl).weak fun _ _ _ q => tCB_weak (K := kx X) calls_sum q
  | min1 => exact (pe_callB (cr_min (hc rfl)) hg hm (by decide +kernel) ha (by decide) hdb he hpl).weak fun _ _ _ q => tCB_weak (K := kx X) calls_min1 q
  | max1 => exact (pe_callB (cr_max (hc rfl)) hg hm (by decide +kernel) ha (by decide) hdb he hpl).weak fun _ _ _ q => tCB_weak (K := kx X) calls_max1 q
  | str => exact (pe_callTy call_str_int hg hm (by decide +kernel) ha (by decide) hdb he hpl).weak fun _ _ _ q => tCB_weak (K := kx X) calls_str q
  | repr => exact (pe_callB (cr_repr hgd hun) hg hm (by decide +kernel) ha (by decide) hdb he hpl).weak fun _ _ _ q => tCB_weak (K := kx X) calls_repr q

/-! ### isinstance -/
theorem boot_ty : ∀ t ∈ askT, bootBuiltins (Str.ofString t) = some (.type t) := by
  intro t ht
  simp only [askT, List.mem_cons, List.not_mem_nil, or_false] at ht
  rcases ht with rfl | rfl | rfl | rfl | rfl | rfl <;> decide +kernel
theorem name_ty : ∀ t ∈ askT, (Str.ofString t : Str) ≠ "__name__" ∧ ((Str.ofString t : Str) == ("__debug__" : Str)) = false := by
  intro t ht
  simp only [askT, List.mem_cons, List.not_mem_nil, or_false] at ht
  rcases ht with rfl | rfl | rfl | rfl | rfl | rfl <;> exact ⟨by decide, by decide⟩
def dataT : List String := ["NoneType", "bool", "int", "str", "tuple", "list", "dict"]
theorem kit_all : ∀ t ∈ dataT, ∀ u ∈ askT, kitB t u = some (subB t u) := by
  intro t ht u hu
  simp only [dataT, askT, List.mem_cons, List.not_mem_nil, or_false] at ht hu
  rcases ht with rfl | rfl | rfl | rfl | rfl | rfl | rfl <;> rcases hu with rfl | rfl | rfl | rfl | rfl | rfl <;> decide +kernel
theorem ty_of {K : Wr} {Z : List Addr} {G : Hp} {ι : List Addr} {h : MH} {H : Hp} (R : HR K Z G ι h H) {x : PV} {v : V} {t : String} (r : RV K G ι x v) (e : tyOf h x = some t) : TyX K.K H v (.type t) ∧ t ∈ dataT := by
  cases r with
  | non => cases e; exact ⟨.base .non, by decide⟩
  | bl b => cases e; exact ⟨.base (.bl b), by decide⟩
  | int i => cases e; exact ⟨.base (.int i), by decide⟩
  | str z => cases e; exact ⟨.base (.str z), by decide⟩
  | @tup a xs vs hs rs =>
    cases e
    refine ⟨?_, by decide⟩
    rcases Same.seqT R.sub hs.sqT with (q | ⟨o, q⟩) | ⟨o, its, n, hk, hc, _⟩
    · exact .base (.tup q)
    · exact .fTuple q
    · exact .kTuple hk hc
  | lst hs rs =>
    cases e
    refine ⟨?_, by decide⟩
    rcases rd_same R.sub hs with q | ⟨o, q⟩
    · exact .base (.lst q)
    · exact .base (.frz q)
  | dic hs _ rs =>
    cases e
    refine ⟨?_, by decide⟩
    rcases rd_same R.sub hs with q | ⟨o, q⟩
    · exact .base (.dK q)
    · exact .fDict q
  | fn _ => cases e
  | @ref n a hn =>
    obtain ⟨o, ho, ro⟩ := R.at hn
    unfold tyOf at e
    simp only [ho] at e
    generalize hH : H a = u at ro
    cases ro with
    | lst rs => cases e; exact ⟨.base (.lst hH), by decide⟩
    | dic _ rs => cases e; exact ⟨.base (.dK hH), by decide⟩
    | fdic _ rs => cases e; exact ⟨.fDict hH, by decide⟩
    | ins _ _ _ => cases e
  | exn _ _ _ _ => cases e
theorem me_type {x : Str} {t : String} {p : Pos} (hx : x = (t : Str)) (ht : t ∈ askT) (hg : Gl X x) (hm : X.mg x = none) : PE X (.Name x p) (tC (.ty t)) := by
  subst hx
  exact pe_bltn hg hm (boot_ty t ht) rfl (name_ty t ht).1 (name_ty t ht).2
theorem kits_any {K : PySem.W.Frag} {t : String} (ht : t ∈ dataT) : ∀ {ts : List String}, (∀ u ∈ ts, u ∈ askT) → PySem.W.kitAny K (.type t) (ts.map Value.type) = some (ts.any (subB t))
  | [], _ => kitAny_nil
  | u :: ts, h => by
    refine kitAny_cons (b := subB t u) (kit_ty (kit_all t ht u (h u List.mem_cons_self))) (fun e => ?_) (fun e => ?_)
    · rw [List.any_cons, e, Bool.false_or]
      exact kits_any ht fun v hv => h v (List.mem_cons_of_mem _ hv)
    · rw [List.any_cons, e, Bool.true_or]
theorem clsvs : ∀ ts : List String, Paired ClsV (ts.map V.ty) (ts.map Value.type)
  | [] => .nil
  | t :: ts => .cons (.ty t) (clsvs ts)
theorem me_isi1 {t : Expr} {p : Pos} {u : String} {g : Str} (hgn : g = ("isinstance" : Str)) (hg : Gl X g) (hm : X.mg g = none) (hu : u ∈ askT) (ha : PE X a (tE exc (kx X) W ra)) (ht : PE X t (tC (.ty u))) (hs : starEach [a, t] X.env = [(false, eval a X.env), (false, eval t X.env)]) (hs2 : starEach [t] X.env = [(false, eval t X.env)]) :
    PE X (.Call (.Name g p) [a, t] [] pos) (tE exc (kx X) W fun ρ h => (ra ρ h).bind fun x h => ofB (isiop x [u] h) h) := by
  subst hgn
  refine (pe_callB call_isi hg hm (by decide +kernel) (pa_cons ha (pa_cons ht pa_nil hs2) (by rw [hs, hs2])) (by decide) (by decide) (by rw [hs, hs2]) (by rw [hs2]; rfl)).weak fun σ H Q q => ?_
  obtain ⟨Z, G, ι, h, ρ, R, S, p⟩ := q
  refine ⟨Z, G, ι, h, ρ, R, S, p.bind fun x h1 G1 ι1 H1 vx n1 rx p1 => ?_⟩
  unfold isiop at p1
  cases e : tyOf h1 x with
  | none => rw [e] at p1; exact p1.elim
  | some ty =>
    rw [e] at p1
    obtain ⟨q1, q2⟩ := ty_of n1.hr rx e
    refine ⟨vx, .ty u, _, _, subB ty u, rfl, .ty u, q1, kit_ty (kit_all ty q2 u hu), ?_⟩
    have := RP.ok_here (b := V.bl _) p1 n1.hr (.bl _)
    simpa using this
theorem tys_run : ∀ {ts : List String} {es : List Expr}, (∀ u ∈ ts, u ∈ askT) → Paired (fun t e => PE X e (tC (.ty t)) ∧ ∀ es', starEach (e :: es') X.env = (false, eval e X.env) :: starEach es' X.env) ts es → PA X es (fun _ H Q => Q (ts.map V.ty) H)
  | _, _, _, .nil => pa_nil
  | _, _, h, .cons r t => by
    exact (pa_cons r.1 (tys_run (fun u hu => h u (List.mem_cons_of_mem _ hu)) t) (r.2 _)).weak fun σ H Q q => q
theorem me_isiT {ts : List String} {us : List Expr} {k : Nat} {tp : Pos} {p : Pos} {g : Str} (hgn : g = ("isinstance" : Str)) (hg : Gl X g) (hm : X.mg g = none) (hu : ∀ u ∈ ts, u ∈ askT) (hl : ts.length ≤ 1000) (ha : PE X a (tE exc (kx X) W ra)) (hp : Paired (fun t e => PE X e (tC (.ty t)) ∧ ∀ es', starEach (e :: es') X.env = (false, eval e X.env) :: starEach es' X.env) ts us)
    (hs : starEach [a, .Tuple us k tp] X.env = [(false, eval a X.env), (false, eval (.Tuple us k tp) X.env)]) :
    PE X (.Call (.Name g p) [a, .Tuple us k tp] [] pos) (tE exc (kx X) W fun ρ h => (ra ρ h).bind fun x h => ofB (isiop x ts h) h) := by
  subst hgn
  refine (pe_callB call_isiT hg hm (by decide +kernel) (pa_cons ha (pa_cons (pe_tup (tys_run hu hp)) pa_nil rfl) (by rw [hs]; rfl)) (by decide) (by decide) (by rw [hs]; rfl) rfl).weak fun σ H Q q => ?_
  obtain ⟨Z, G, ι, h, ρ, R, S, p⟩ := q
  refine ⟨Z, G, ι, h, ρ, R, S, p.bind fun x h1 G1 ι1 H1 vx n1 rx p1 => ?_⟩
  unfold isiop at p1
  refine ⟨by rw [List.length_map, sizeLine_eq]; omega, fun l hl => ?_⟩
  have n2 : Nx (kx X) Z G1 ι1 H1 (upd G1 l (.tup (ts.map V.ty))) ι1 h1 (upd H1 l (.tup (ts.map V.ty))) := ⟨same_upd (n1.hr.gnone hl), Pre.refl _, n1.hr.laid hl, fun z hz => upd_ne fun e => n1.hr.freshZ hl (e ▸ hz)⟩
  cases e : tyOf h1 x with
  | none => rw [e] at p1; exact p1.elim
  | some ty =>
    rw [e] at p1
    obtain ⟨q1, q2⟩ := ty_of n2.hr (rx.mono n2.same n2.pre) e
    exact ⟨vx, l, _, _, _, _, rfl, upd_same, clsvs ts, q1, kits_any q2 hu, RP.ok_here (b := V.bl _) (p1.later n2) n2.hr (.bl _)⟩
/-! ### methods -/
theorem attrBase_of {o : Expr} {f : Str} {env : Env} {w' : Sem Value} (h : plainO o = true) : attributeBase o f env w' = w' := by
  cases o with
  | Call fn as ks ps =>
    cases fn with
    | Name id q =>
      cases as with
      | nil => cases ks with
        | nil => cases h
        | cons _ _ => rfl
      | cons _ _ => rfl
    | _ => rfl
  | _ => rfl
/-- either of two readings -/
theorem pe_or {e : Expr} {t t' : TE} (h : PE X e t) (h' : PE X e t') : PE X e (fun σ H Q => t σ H Q ∨ t' σ H Q) := ⟨fun pins s σ H Q I q => q.elim (h.run pins s σ H Q I) (h'.run pins s σ H Q I)⟩
section
variable {o y y2 : Expr} {name : Str} {apos cpos : Pos} {rs : Env' → MH → Res (List PV)} {m : Mt} {K : Wr}
/-- a method call's run -/
noncomputable def metR (m : Mt) (n : Nat) (ra : Env' → MH → Res PV) (rs : Env' → MH → Res (List PV)) : Env' → MH → Res PV := fun ρ h => (ra ρ h).bind fun x h => if metok m n x h = true then (rs ρ h).bind fun xs h => metop m true x xs h else .stuck
theorem metop_r {m : Mt} {r r' : Bool} {x : PV} {xs : List PV} {h : MH} : metop m r x xs h = metop m r' x xs h := rfl
theorem go_bm {T : String} {n : Nat} {r : V → List V → Hp → VK → Prop} (hl : ∀ ρ h xs h', rs ρ h = .ok xs h' → xs.length = n)
    (ok : ∀ {Z : List Addr} {G : Hp} {ι : List Addr} {h : MH} {H : Hp} {x : PV} {v : V}, HR K Z G ι h H → RV K G ι x v → metok m n x h = true → tyV K.K T v H)
    (k : ∀ {Z : List Addr} {G : Hp} {ι : List Addr} {h : MH} {H : Hp} {Q : VK} {E : XK} {x : PV} {v : V} {xs : List PV} {vs : List V}, HR K Z G ι h H → RV K G ι x v → RVs K G ι xs vs → xs.length = n → RP exc K (rV K) Z G ι H (metop m true x xs h) Q E → r v vs H Q) {σ : L2.St} {H : Hp} {Q : VK}
    (q : tE exc K W (metR m n ra rs) σ H Q) : tBM K.K T r (tE exc K W ra) (tA exc K W rs) σ H Q := by
  obtain ⟨Z, G, ι, h, ρ, R, S, p⟩ := q
  refine ⟨Z, G, ι, h, ρ, R, S, p.bind fun x h1 G1 ι1 H1 vx n1 rx p1 => ?_⟩
  split at p1
  · rename_i hk
    refine ⟨ok n1.hr rx hk, Z, G1, ι1, h1, ρ, n1.hr, S.mono n1.same n1.pre, ?_⟩
    have len := hl ρ h1
    generalize rs ρ h1 = rr at p1 len
    cases rr with
    | stuck => exact p1
    | exn c v h => exact p1
    | ok xs h2 =>
      intro G2 ι2 H2 vs n2 rv
      exact k n2.hr (rx.mono n2.same n2.pre) rv (len xs h2 rfl) (RP.later p1 n2)
  · exact p1.elim
theorem go_bmT (hl : ∀ ρ h xs h', rs ρ h = .ok xs h' → xs.length = 1)
    (k : ∀ {Z : List Addr} {G : Hp} {ι : List Addr} {h : MH} {H : Hp} {Q : VK} {E : XK} {x : PV} {v : V} {xs : List PV} {vs : List V}, HR K Z G ι h H → RV K G ι x v → RVs K G ι xs vs → xs.length = 1 → RP exc K (rV K) Z G ι H (metop .tindex true x xs h) Q E → rTix K.K v vs H Q) {σ : L2.St} {H : Hp} {Q : VK}
    (q : tE exc K W (metR .tindex 1 ra rs) σ H Q) : tBMT K.K (rTix K.K) (tE exc K W ra) (tA exc K W rs) σ H Q := by
  obtain ⟨Z, G, ι, h, ρ, R, S, p⟩ := q
  refine ⟨Z, G, ι, h, ρ, R, S, p.bind fun x h1 G1 ι1 H1 vx n1 rx p1 => ?_⟩
  split at p1
  · rename_i hk
    obtain ⟨a, vs, e1, e2⟩ := ok_tup n1.hr rx hk
    refine ⟨⟨a, vs, e1, e2⟩, Z, G1, ι1, h1, ρ, n1.hr, S.mono n1.same n1.pre, ?_⟩
    have len := hl ρ h1
    generalize rs ρ h1 = rr at p1 len
    cases rr with
    | stuck => exact p1
    | exn c v h => exact p1
    | ok xs h2 =>
      intro G2 ι2 H2 vs n2 rv
      exact k n2.hr (rx.mono n2.same n2.pre) rv (len xs h2 rfl) (RP.later p1 n2)
  · exact p1.elim
theorem go_bm0 {T : String} {r : V → List V → Hp → VK → Prop}
    (ok : ∀ {Z : List Addr} {G : Hp} {ι : List Addr} {h : MH} {H : Hp} {x : PV} {v : V}, HR K Z G ι h H → RV K G ι x v → metok m 0 x h = true → tyV K.K T v H)
    (k : ∀ {Z : List Addr} {G : Hp} {ι : List Addr} {h : MH} {H : Hp} {Q : VK} {E : XK} {x : PV} {v : V}, HR K Z G ι h H → RV K G ι x v → RP exc K (rV K) Z G ι H (metop m true x [] h) Q E → r v [] H Q) {σ : L2.St} {H : Hp} {Q : VK}
    (q : tE exc K W (metR m 0 ra fun _ h => .ok [] h) σ H Q) : tBM0 K.K T r (tE exc K W ra) σ H Q := by
  obtain ⟨Z, G, ι, h, ρ, R, S, p⟩ := q
  refine ⟨Z, G, ι, h, ρ, R, S, p.bind fun x h1 G1 ι1 H1 vx n1 rx p1 => ?_⟩
  split at p1
  · rename_i hk
    exact ⟨ok n1.hr rx hk, k n1.hr rx p1⟩
  · exact p1.elim
theorem len1 {xs : List PV} {vs : List V} {G : Hp} {ι : List Addr} (r : RVs K G ι xs vs) (h : xs.length = 1) : ∃ x v, xs = [x] ∧ vs = [v] ∧ RV K G ι x v := by
  obtain ⟨x, rfl⟩ := List.length_eq_one_iff.mp h
  obtain ⟨v, ws, rfl, r1, r2⟩ := r.cons_inv
  rw [r2.nil_inv]
  exact ⟨x, v, rfl, rfl, r1⟩
theorem len2 {xs : List PV} {vs : List V} {G : Hp} {ι : List Addr} (r : RVs K G ι xs vs) (h : xs.length = 2) : ∃ x y v w, xs = [x, y] ∧ vs = [v, w] ∧ RV K G ι x v ∧ RV K G ι y w := by
  rcases xs with _ | ⟨x, _ | ⟨y, _ | _⟩⟩ <;> first | cases h | skip
  obtain ⟨v, ws, rfl, r1, r2⟩ := r.cons_inv
  obtain ⟨w, us, rfl, r3, r4⟩ := r2.cons_inv
  rw [r4.nil_inv]
  exact ⟨x, y, v, w, rfl, rfl, r1, r3⟩
theorem me_met0 (hn : mtN m = name) (hA : mtA m 0 = true) (hpo : plainO o = true) (hline : apos.endLine = cpos.line) (ho : PE X o (tE exc (kx X) W ra)) :
    PE X (.Call (.Attribute o name apos) [] [] cpos) (tE exc (kx X) W (metR m 0 ra fun _ h => .ok [] h)) := by
  subst hn
  have hb : attributeBase o (mtN m) X.env (eval o X.env) = eval o X.env := attrBase_of hpo
  have hli : (apos.endLine == cpos.line) = true := by rw [hline]; exact beq_self_eq_true _
  cases m <;> first | cases hA | skip
  · exact (pe_bm0 PySem.F.plainAttrs_list PySem.F.slot_list_pop PySem.F.type_list_pop mt_pop ho hb hli).weak fun σ H Q q => go_bm0 (K := kx X) (m := .pop) (fun R r e => ok_lst R r e) (fun R r p => mets_pop R r p) q
  · exact (pe_bm0 PySem.F.plainAttrs_list PySem.F.slot_list_reverse PySem.F.type_list_reverse mt_reverse ho hb hli).weak fun σ H Q q => go_bm0 (K := kx X) (m := .reverse) (fun R r e => ok_lst R r e) (fun R r p => mets_reverse R r p) q
  · exact (pe_bm0 PySem.F.plainAttrs_list PySem.F.slot_list_clear PySem.F.type_list_clear mt_clear ho hb hli).weak fun σ H Q q => go_bm0 (K := kx X) (m := .clear) (fun R r e => ok_lst R r e) (fun R r p => mets_clear R r p) q
  · exact (pe_bm0 PySem.F.plainAttrs_str PySem.F.slot_str_upper PySem.F.type_str_upper mt_upper ho hb hli).weak fun σ H Q q => go_bm0 (K := kx X) (m := .upper) (fun R r e => by obtain ⟨a, rfl⟩ := ok_str r e; rfl) (fun R r p => mets_upper R r p) q
theorem me_met1 (hu : X.A.units + 65 < cLine) (hn : mtN m = name) (hA : mtA m 1 = true) (hpo : plainO o = true) (hline : apos.endLine = cpos.line) (ho : PE X o (tE exc (kx X) W ra)) (ha : PA X [y] (tA exc (kx X) W rs)) (hs : starEach [y] X.env = [(false, eval y X.env)]) (hl : ∀ ρ h xs h', rs ρ h = .ok xs h' → xs.length = 1) :
    PE X (.Call (.Attribute o name apos) [y] [] cpos) (tE exc (kx X) W (metR m 1 ra rs)) := by
  subst hn
  have hb : attributeBase o (mtN m) X.env (eval o X.env) = eval o X.env := attrBase_of hpo
  have hfew : ((backTo cpos (starEach [y] X.env)).all (fun x => !x.1) && (backToKw cpos (keywordEach [] X.env)).all (fun x => x.1.isSome)
      && decide (([y] : List Expr).length + ([] : List Keyword).length + (if ([] : List Keyword).isEmpty then 0 else 1) < 30)) = true := by rw [hs]; rfl
  have hli : (apos.endLine == cpos.line) = true := by rw [hline]; exact beq_self_eq_true _
  have one : ∀ {r : V → List V → Hp → VK → Prop} {f : PV → PV → MH → Res PV}, (∀ {Z : List Addr} {G : Hp} {ι : List Addr} {h : MH} {H : Hp} {Q : VK} {E : XK} {x z : PV} {v w : V}, HR (kx X) Z G ι h H → RV (kx X) G ι x v → RV (kx X) G ι z w → RP exc (kx X) (rV (kx X)) Z G ι H (f x z h) Q E → r v [w] H Q) →
      (∀ x z h, metop m true x [z] h = f x z h) → ∀ {Z : List Addr} {G : Hp} {ι : List Addr} {h : MH} {H : Hp} {Q : VK} {E : XK} {x : PV} {v : V} {xs : List PV} {vs : List V}, HR (kx X) Z G ι h H → RV (kx X) G ι x v → RVs (kx X) G ι xs vs → xs.length = 1 → RP exc (kx X) (rV (kx X)) Z G ι H (metop m true x xs h) Q E → r v vs H Q := by
    intro r f k e Z G ι h H Q E x v xs vs R rx rv z p
    obtain ⟨x1, w1, rfl, rfl, r1⟩ := len1 rv z
    rw [e] at p
    exact k R rx r1 p
  cases m <;> first | cases hA | skip
  · exact (pe_bm PySem.F.plainAttrs_list PySem.F.slot_list_append PySem.F.type_list_append mt_append ho ha hb hfew hli hs rfl).weak fun σ H Q q => go_bm (K := kx X) (m := .append) hl (fun R r e => ok_lst R r e) (one (fun R rx ry p => mets_append R rx ry p) fun _ _ _ => rfl) q
  · exact (pe_bm PySem.F.plainAttrs_list PySem.F.slot_list_extend PySem.F.type_list_extend mt_extR ho ha hb hfew hli hs rfl).weak fun σ H Q q => go_bm (K := kx X) (m := .extend) hl (fun R r e => ok_lst R r e) (one (fun R rx ry p => mets_extend R rx ry p) fun _ _ _ => rfl) q
  · exact (pe_bm PySem.F.plainAttrs_list PySem.F.slot_list_pop PySem.F.type_list_pop mt_popAt ho ha hb hfew hli hs rfl).weak fun σ H Q q => go_bm (K := kx X) (m := .pop) hl (fun R r e => ok_lst R r e) (one (fun R rx ry p => mets_popI R rx ry p) fun _ _ _ => rfl) q
  · exact (pe_bm PySem.F.plainAttrs_list PySem.F.slot_list_index PySem.F.type_list_index (mt_indexD hu) ho ha hb hfew hli hs rfl).weak fun σ H Q q => go_bm (K := kx X) (m := .index) hl (fun R r e => ok_lsq R r e) (one (fun R rx ry p => mets_index R rx ry p) fun _ _ _ => rfl) q
  · exact (pe_bm PySem.F.plainAttrs_str PySem.F.slot_str_join PySem.F.type_str_join mt_join ho ha hb hfew hli hs rfl).weak fun σ H Q q => go_bm (K := kx X) (m := .join) hl (fun R r e => by obtain ⟨a, rfl⟩ := ok_str r e; rfl) (one (fun R rx ry p => mets_join R rx ry p) fun _ _ _ => rfl) q
  · exact (pe_bmT mt_tix ho ha hb hfew hli hs).weak fun σ H Q q => go_bmT (K := kx X) hl (one (fun R rx ry p => mets_tindex R rx ry p) fun _ _ _ => rfl) q
theorem me_met2 {ry ry2 : Env' → MH → Res PV} (hu : X.A.units + 64 < cLine) (hn : mtN m = name) (hA : mtA m 2 = true) (hpo : plainO o = true) (hline : apos.endLine = cpos.line) (ho : PE X o (tE exc (kx X) W ra)) (hy : PE X y (tE exc (kx X) W ry)) (hy2 : PE X y2 (tE exc (kx X) W ry2)) (hs : starEach [y, y2] X.env = [(false, eval y X.env), (false, eval y2 X.env)]) (hs2 : starEach [y2] X.env = [(false, eval y2 X.env)]) :
    PE X (.Call (.Attribute o name apos) [y, y2] [] cpos) (tE exc (kx X) W (metR m 2 ra fun ρ h => (ry ρ h).bind fun x h => (ry2 ρ h).bind fun z h => .ok [x, z] h)) := by
  subst hn
  have hb : attributeBase o (mtN m) X.env (eval o X.env) = eval o X.env := attrBase_of hpo
  have hfew : ((backTo cpos (starEach [y, y2] X.env)).all (fun x => !x.1) && (backToKw cpos (keywordEach [] X.env)).all (fun x => x.1.isSome)
      && decide (([y, y2] : List Expr).length + ([] : List Keyword).length + (if ([] : List Keyword).isEmpty then 0 else 1) < 30)) = true := by rw [hs]; rfl
  have hli : (apos.endLine == cpos.line) = true := by rw [hline]; exact beq_self_eq_true _
  have m2 : M2 X o (mtN m) apos y y2 cpos := ⟨hb, hfew, hli, by rw [hs]; rfl⟩
  have du : X.A.units + 1 < cLine := Nat.lt_of_le_of_lt (by omega) hu
  have go : ∀ {T : Hp → Addr → V → V → VK → Prop} {f : PV → PV → PV → MH → Res PV}, (∀ x z u h, metop m true x [z, u] h = f x z u h) → (∀ x h, metok m 2 x h = isDic h x) →
      (∀ {Z : List Addr} {G : Hp} {ι : List Addr} {h : MH} {H : Hp} {Q : VK} {E : XK} {x z u : PV} {v w t : V}, HR (kx X) Z G ι h H → RV (kx X) G ι x v → RV (kx X) G ι z w → RV (kx X) G ι u t → RP exc (kx X) (rV (kx X)) Z G ι H (f x z u h) Q E → ∃ a, v = .ref a ∧ T H a w t Q) →
      ∀ {σ : L2.St} {H : Hp} {Q : VK}, tE exc (kx X) W (metR m 2 ra fun ρ h => (ry ρ h).bind fun x h => (ry2 ρ h).bind fun z h => .ok [x, z] h) σ H Q →
      tE exc (kx X) W ra σ H fun x H1 => ∃ a, x = .ref a ∧ IsD H1 a ∧ tE exc (kx X) W ry σ H1 fun z H2 => tE exc (kx X) W ry2 σ H2 fun u H3 => T H3 a z u Q := by
    intro T f e1 e2 k σ H Q q
    obtain ⟨Z, G, ι, h, ρ, R, S, p⟩ := q
    refine ⟨Z, G, ι, h, ρ, R, S, p.bind fun x h1 G1 ι1 H1 vx n1 rx p1 => ?_⟩
    split at p1
    · rename_i hk
      rw [e2] at hk
      obtain ⟨a, rfl, hd⟩ := ok_dic n1.hr rx hk
      have S1 := S.mono n1.same n1.pre
      refine ⟨a, rfl, hd, Z, G1, ι1, h1, ρ, n1.hr, S1, ?_⟩
      rw [Res.assoc] at p1
      refine p1.bind fun z h2 G2 ι2 H2 vz n2 rz p2 => ?_
      refine ⟨Z, G2, ι2, h2, ρ, n2.hr, S1.mono n2.same n2.pre, ?_⟩
      rw [Res.assoc] at p2
      refine p2.bind fun u h3 G3 ι3 H3 vu n3 ru p3 => ?_
      have p4 : RP exc (kx X) (rV (kx X)) Z G3 ι3 H3 (metop m true x [z, u] h3) Q _ := p3
      rw [e1] at p4
      obtain ⟨a', ea, t⟩ := k n3.hr (rx.mono (n2.same.trans n3.same) (n2.pre.trans n3.pre)) (rz.mono n3.same n3.pre) ru p4
      cases ea
      exact t
    · exact p1.elim
  cases m <;> first | cases hA | skip
  · refine (pe_dpop2 ho hy hy2 m2).weak fun σ H Q q => ?_
    exact go (T := fun H3 a z u Q => ∃ kvs k, H3 a = some (.dK kvs) ∧ z = kV k ∧ (∀ v, valV kvs k = some v → Q v (upd H3 a (.dK (dropK kvs k)))) ∧ (valV kvs k = none → Q u H3)) (fun _ _ _ _ => rfl) (fun _ _ => rfl) (fun R rx ry rz p => mets_popD R rx ry rz p) q
  · have ha : PA X [y, y2] (tA exc (kx X) W fun ρ h => (ry ρ h).bind fun x h => (ry2 ρ h).bind fun z h => .ok [x, z] h) := by
      have := me_cons (exc := exc) hy (me_cons (exc := exc) hy2 me_nil (by rw [hs2]; rfl)) (by rw [hs, hs2])
      refine this.weak fun σ H Q q => ?_
      have e : (fun (ρ : Env') (h : MH) => (ry ρ h).bind fun x h => ((ry2 ρ h).bind fun x h => Res.bind (.ok [] h) fun xs h => .ok (x :: xs) h).bind fun xs h => .ok (x :: xs) h) = fun ρ h => (ry ρ h).bind fun x h => (ry2 ρ h).bind fun z h => .ok [x, z] h := by
        funext ρ h
        congr 1
        funext x h
        rw [Res.assoc]
        rfl
      rw [e]; exact q
    have hl : ∀ ρ h xs h', ((ry ρ h).bind fun x h => (ry2 ρ h).bind fun z h => Res.ok [x, z] h) = .ok xs h' → xs.length = 2 := by
      intro ρ h xs h' e
      cases e1 : ry ρ h with
      | stuck => rw [e1] at e; cases e
      | exn _ _ _ => rw [e1] at e; cases e
      | ok x h1 =>
        rw [e1] at e
        have e : ((ry2 ρ h1).bind fun z h => Res.ok [x, z] h) = .ok xs h' := e
        cases e2 : ry2 ρ h1 with
        | stuck => rw [e2] at e; cases e
        | exn _ _ _ => rw [e2] at e; cases e
        | ok z h2 =>
          rw [e2] at e
          have e : Res.ok [x, z] h2 = .ok xs h' := e
          cases e; rfl
    refine (pe_bm PySem.F.plainAttrs_list PySem.F.slot_list_insert PySem.F.type_list_insert mt_insert ho ha hb hfew hli (by rw [hs, hs2]) (by rw [hs2]; rfl)).weak fun σ H Q q => go_bm (K := kx X) (m := .insert) hl (fun R r e => ok_lst R r e) (fun R rx rv z p => ?_) q
    obtain ⟨x1, x2, w1, w2, rfl, rfl, r1, r2⟩ := len2 rv z
    exact mets_insert R rx r1 r2 p
  · refine (pe_dget2 du ho hy hy2 m2).weak fun σ H Q q => ?_
    exact go (T := fun H3 a z u Q => ∃ o, DGet H3 a z o ∧ Q (o.getD u) H3) (fun _ _ _ _ => rfl) (fun _ _ => rfl) (fun R rx ry rz p => mets_get (a := 0) R rx ry rz p) q
end
/-! ### tests -/
theorem mt_not {r : Env' → MH → Res PV} (ha : PT X a (tT exc (kx X) W (truR r))) : PT X (.UnaryOp .Not a pos) (tT exc (kx X) W (truR fun ρ h => (r ρ h).bind fun x h => ofB ((truthy h x).map (!·)) h)) := by
  refine (pt_not ha).weak fun σ H Q q => ?_
  obtain ⟨Z, G, ι, h, ρ, R, S, p⟩ := q
  refine ⟨Z, G, ι, h, ρ, R, S, ?_⟩
  unfold truR at p
  unfold truR
  rw [Res.assoc] at p
  have e : ((r ρ h).bind fun x h => (ofB ((truthy h x).map (!·)) h).bind fun x h => match truthy h x with
      | some b => .ok b h
      | none => .stuck) = ((r ρ h).bind fun x h => match truthy h x with
      | some b => .ok b h
      | none => .stuck).bind fun b h => .ok (!b) h := by
    rw [Res.assoc]
    congr 1
    funext x h
    cases truthy h x <;> rfl
  rw [e] at p
  refine p.bind fun t h1 G1 ι1 H1 t' n1 et p1 => ?_
  cases et
  exact RP.ok_here p1 n1.hr rfl
theorem mt_plain {r : Env' → MH → Res PV} (ha : PE X a (tE exc (kx X) W r)) (he : ∀ whole, isTrue a X.env whole = (do let v ← whole; standAt a.pos; holding [v] (PySem.truthy v))) : PT X a (tT exc (kx X) W (truR r)) := by
  refine (pt_truth ha he).weak fun σ H Q q => ?_
  obtain ⟨Z, G, ι, h, ρ, R, S, p⟩ := q
  refine ⟨Z, G, ι, h, ρ, R, S, p.bind fun x h1 G1 ι1 H1 vx n1 rx p1 => ?_⟩
  cases e : truthy h1 x with
  | none => rw [e] at p1; exact p1.elim
  | some k =>
    rw [e] at p1
    exact ⟨k, tru_of n1.hr rx e, RP.ok_here p1 n1.hr rfl⟩
theorem mw_and1 {r : Env' → MH → Res PV} (ha : PT X a (tT exc (kx X) W (truR r))) : PW X (.BoolOp .And [a] pos) (tT exc (kx X) W (truR r)) := pw_and1 ha
theorem mw_or1 {r : Env' → MH → Res PV} (ha : PT X a (tT exc (kx X) W (truR r))) : PW X (.BoolOp .Or [a] pos) (tT exc (kx X) W (truR r)) := pw_or1 ha
theorem mw_and {e : Expr} {rest : List Expr} {r rr : Env' → MH → Res PV} (ha : PT X a (tT exc (kx X) W (truR r))) (hb : PW X (.BoolOp .And (e :: rest) pos) (tT exc (kx X) W (truR rr))) :
    PW X (.BoolOp .And (a :: e :: rest) pos) (tT exc (kx X) W (truR fun ρ h => (r ρ h).bind fun x h => match truthy h x with
      | some true => rr ρ h
      | some false => .ok x h
      | none => .stuck)) := by
  refine (pw_and ha hb).weak fun σ H Q q => ?_
  obtain ⟨Z, G, ι, h, ρ, R, S, p⟩ := q
  refine ⟨Z, G, ι, h, ρ, R, S, ?_⟩
  unfold truR at p
  unfold truR
  rw [Res.assoc] at p
  have e : ((r ρ h).bind fun x h => (match truthy h x with
      | some true => rr ρ h
      | some false => .ok x h
      | none => .stuck : Res PV).bind fun x h => match truthy h x with
      | some b => .ok b h
      | none => .stuck) = ((r ρ h).bind fun x h => match truthy h x with
      | some b => .ok b h
      | none => .stuck).bind fun b h => if b = true then truR rr ρ h else .ok false h := by
    rw [Res.assoc]
    congr 1
    funext x h
    cases e : truthy h x with
    | none => rfl
    | some t => cases t with
      | true => rfl
      | false =>
        show (match truthy h x with
          | some b => Res.ok b h
          | none => .stuck) = Res.ok false h
        rw [e]
  rw [e] at p
  refine p.bind fun t h1 G1 ι1 H1 t' n1 et p1 => ?_
  cases et
  cases t with
  | true => exact ⟨Z, G1, ι1, h1, ρ, n1.hr, S.mono n1.same n1.pre, p1⟩
  | false => exact RP.ok_here p1 n1.hr rfl
theorem mw_or {e : Expr} {rest : List Expr} {r rr : Env' → MH → Res PV} (ha : PT X a (tT exc (kx X) W (truR r))) (hb : PW X (.BoolOp .Or (e :: rest) pos) (tT exc (kx X) W (truR rr))) :
    PW X (.BoolOp .Or (a :: e :: rest) pos) (tT exc (kx X) W (truR fun ρ h => (r ρ h).bind fun x h => match truthy h x with
      | some true => .ok x h
      | some false => rr ρ h
      | none => .stuck)) := by
  refine (pw_or ha hb).weak fun σ H Q q => ?_
  obtain ⟨Z, G, ι, h, ρ, R, S, p⟩ := q
  refine ⟨Z, G, ι, h, ρ, R, S, ?_⟩
  unfold truR at p
  unfold truR
  rw [Res.assoc] at p
  have e : ((r ρ h).bind fun x h => (match truthy h x with
      | some true => .ok x h
      | some false => rr ρ h
      | none => .stuck : Res PV).bind fun x h => match truthy h x with
      | some b => .ok b h
      | none => .stuck) = ((r ρ h).bind fun x h => match truthy h x with
      | some b => .ok b h
      | none => .stuck).bind fun b h => if b = true then .ok true h else truR rr ρ h := by
    rw [Res.assoc]
    congr 1
    funext x h
    cases e : truthy h x with
    | none => rfl
    | some t => cases t with
      | false => rfl
      | true =>
        show (match truthy h x with
          | some b => Res.ok b h
          | none => .stuck) = Res.ok true h
        rw [e]
  rw [e] at p
  refine p.bind fun t h1 G1 ι1 H1 t' n1 et p1 => ?_
  cases et
  cases t with
  | true => exact RP.ok_here p1 n1.hr rfl
  | false => exact ⟨Z, G1, ι1, h1, ρ, n1.hr, S.mono n1.same n1.pre, p1⟩
/-- a conditional expression as a test -/
theorem pt_ifExp {tc ta tb : TT} (hc : PT X c tc) (ha : PT X a ta) (hb : PT X b tb) : PT X (.IfExp c a b pos) (fun σ H Q => tc σ H fun k H1 => if k = true then ta σ H1 Q else tb σ H1 Q) := by
  refine ⟨fun pins s σ H Q I h => ?_⟩
  show wpAny _ _ (PySem.isTrue (.IfExp c a b pos) X.env _) _ _ _
  unfold PySem.isTrue
  refine wpAny_bind (thn (hc.run pins s σ H _ I h) fun d s1 ⟨H1, I1, q1⟩ => ?_)
  cases d with
  | true => exact ha.run pins s1 σ H1 Q I1 q1
  | false => exact hb.run pins s1 σ H1 Q I1 q1
theorem mt_ifx {r ra' rb' : Env' → MH → Res PV} (hc : PT X c (tT exc (kx X) W (truR r))) (ha : PT X a (tT exc (kx X) W (truR ra'))) (hb : PT X b (tT exc (kx X) W (truR rb'))) :
    PT X (.IfExp c a b pos) (tT exc (kx X) W (truR fun ρ h => (r ρ h).bind fun x h => match truthy h x with
      | some true => ra' ρ h
      | some false => rb' ρ h
      | none => .stuck)) := by
  refine (pt_ifExp hc ha hb).weak fun σ H Q q => ?_
  obtain ⟨Z, G, ι, h, ρ, R, S, p⟩ := q
  refine ⟨Z, G, ι, h, ρ, R, S, ?_⟩
  unfold truR at p
  unfold truR
  rw [Res.assoc] at p
  have e : ((r ρ h).bind fun x h => (match truthy h x with
      | some true => ra' ρ h
      | some false => rb' ρ h
      | none => .stuck : Res PV).bind fun x h => match truthy h x with
      | some b => .ok b h
      | none => .stuck) = ((r ρ h).bind fun x h => match truthy h x with
      | some b => .ok b h
      | none => .stuck).bind fun b h => if b = true then truR ra' ρ h else truR rb' ρ h := by
    rw [Res.assoc]
    congr 1
    funext x h
    cases truthy h x with
    | none => rfl
    | some t => cases t <;> rfl
  rw [e] at p
  refine p.bind fun t h1 G1 ι1 H1 t' n1 et p1 => ?_
  cases et
  cases t with
  | true => exact ⟨Z, G1, ι1, h1, ρ, n1.hr, S.mono n1.same n1.pre, p1⟩
  | false => exact ⟨Z, G1, ι1, h1, ρ, n1.hr, S.mono n1.same n1.pre, p1⟩
end
end Mx

end

section
set_option Elab.async false
set_option Elab.async false
set_option linter.all false
set_option maxRecDepth 100000
set_option maxHeartbeats 4000000
/-! Targets, what loops go through, comprehensions. -/
namespace Mx
open PySem PySem.Spec PyProof.Rows L2

/-! ### targets -/
section
variable (K : Wr)
def tG (g : Ag) : TG := fun v σ H Q => ∃ Z G ι h ρ x ρ', HR K Z G ι h H ∧ SR K G ι ρ σ ∧ RV K G ι x v ∧ bindG g x ρ h = some ρ' ∧ ∀ σ', SR K G ι ρ' σ' → σ'.length = σ.length → (∀ i, i ∉ g.slots → σ'[i]? = σ[i]?) → Q σ' H
def tGs (gs : Ags) : TGs := fun vs σ H Q => ∃ Z G ι h ρ xs ρ', HR K Z G ι h H ∧ SR K G ι ρ σ ∧ RVs K G ι xs vs ∧ bindGs gs xs ρ h = some ρ' ∧ ∀ σ', SR K G ι ρ' σ' → σ'.length = σ.length → (∀ i, i ∉ Ag.slots.gsl gs → σ'[i]? = σ[i]?) → Q σ' H
end
theorem SR.set {K : Wr} {G : Hp} {ι : List Addr} {ρ : Env'} {σ : L2.St} {i : Nat} {x : PV} {v : V} (S : SR K G ι ρ σ) (r : RV K G ι x v) : SR K G ι (ρ.set i (some x)) (σ.set i (some v)) := by
  refine ⟨by rw [List.length_set, List.length_set]; exact S.1, fun j y e => ?_⟩
  by_cases hj : i = j
  · subst hj
    have hl : i < ρ.length := by
      have := (List.getElem?_eq_some_iff.mp e).1
      rwa [List.length_set] at this
    rw [List.getElem?_set_self hl] at e
    cases e
    exact ⟨v, List.getElem?_set_self (by rw [← S.1]; exact hl), r⟩
  · rw [List.getElem?_set_ne hj] at e
    rw [List.getElem?_set_ne hj]
    exact S.2 j y e
theorem SR.clear {K : Wr} {G : Hp} {ι : List Addr} {ρ : Env'} {σ : L2.St} (i : Nat) (S : SR K G ι ρ σ) : SR K G ι (ρ.set i none) (σ.set i none) := by
  refine ⟨by rw [List.length_set, List.length_set]; exact S.1, fun j y e => ?_⟩
  by_cases hj : i = j
  · subst hj
    by_cases hl : i < ρ.length
    · rw [List.getElem?_set_self hl] at e; cases e
    · rw [List.getElem?_eq_none (by rw [List.length_set]; omega)] at e; cases e
  · rw [List.getElem?_set_ne hj] at e
    rw [List.getElem?_set_ne hj]
    exact S.2 j y e
theorem SR.wipe {K : Wr} {G : Hp} {ι : List Addr} {ρ : Env'} {σ : L2.St} (S : SR K G ι ρ σ) : ∀ vs : List Nat, SR K G ι (wipeP ρ vs) (L2.wipe σ vs)
  | [] => S
  | v :: vs => by
    unfold wipeP L2.wipe
    exact (SR.wipe S vs).clear v
theorem wipe_at {σ : L2.St} {i : Nat} : ∀ {vs : List Nat}, i ∈ vs → (L2.wipe σ vs)[i]? = if i < σ.length then some none else none
  | v :: vs, h => by
    unfold L2.wipe
    by_cases e : v = i
    · subst e
      rw [List.getElem?_set, if_pos rfl, wipe_length]
    · rw [List.getElem?_set_ne e]
      rcases List.mem_cons.mp h with rfl | h
      · exact absurd rfl e
      · exact wipe_at h
theorem wipe_same {σ τ : L2.St} {vs : List Nat} (hl : τ.length = σ.length) (h : ∀ i, i ∉ vs → τ[i]? = σ[i]?) : L2.wipe τ vs = L2.wipe σ vs := by
  apply List.ext_getElem?
  intro i
  by_cases hi : i ∈ vs
  · rw [wipe_at hi, wipe_at hi, hl]
  · rw [wipe_out hi, wipe_out hi]; exact h i hi
theorem wipe_wipe {σ : L2.St} {vs : List Nat} : L2.wipe (L2.wipe σ vs) vs = L2.wipe σ vs := wipe_same (wipe_length _ _) fun i hi => wipe_out hi

section
variable {X : Cx} {L : Lk}
theorem star_of {N : List Str} {fn : Str → Bool} {sc : Scope} {g : Ag} {e : Expr} (hm : mG L N fn sc g e = true) (es : List Expr) : assignEach (e :: es) X.env = (false, assign e X.env) :: assignEach es X.env := by
  cases g with
  | nm i => cases e <;> first | rfl | cases hm
  | tp gs => cases e <;> first | rfl | cases hm
theorem loc_of {sc : Scope} {x : Str} (h : locB sc x = true) : Loc sc x := by
  unfold locB at h
  split at h
  · exact .inl (by assumption)
  · exact .inr (by assumption)
  · cases h
theorem onlyLoc_of {sc : Scope} {x : Str} (h : onlyLocB sc x = true) : sc.names.lookup x = some .local := by
  unfold onlyLocB at h
  split at h
  · assumption
  · cases h
theorem vis_of {sc : Scope} {x : Str} (h : visB sc x = true) : Vis sc x := by
  unfold visB at h
  split at h
  · exact .inl (by assumption)
  · exact .inr (.inl (by assumption))
  · exact .inr (.inr (by assumption))
  · cases h
theorem gl_of {X : Cx} {x : Str} (h : gloB X.env.scope x = true) : Gl X x ∧ (x == ("__debug__" : Str)) = false := by
  unfold gloB at h
  split at h
  · refine ⟨by assumption, ?_⟩
    simpa using h
  · cases h
theorem bindGs_len {N : List Str} {fn : Str → Bool} {sc : Scope} {h : MH} : ∀ {gs : Ags} {xs : List Expr} {ys : List PV} {ρ ρ' : Env'}, mGs L N fn sc gs xs = true → bindGs gs ys ρ h = some ρ' → ys.length = xs.length
  | .nil, [], [], _, _, _, _ => rfl
  | .nil, _ :: _, _, _, _, h1, _ => by cases h1
  | .nil, [], _ :: _, _, _, _, h2 => by simp [bindGs] at h2
  | .cons g gs, [], _, _, _, h1, _ => by cases h1
  | .cons g gs, _ :: _, [], _, _, _, h2 => by simp [bindGs] at h2
  | .cons g gs, x :: xs, y :: ys, ρ, ρ', h1, h2 => by
    unfold mGs at h1
    rw [Bool.and_eq_true] at h1
    unfold bindGs at h2
    split at h2
    · simp only [List.length_cons]; rw [bindGs_len h1.2 h2]
    · cases h2
/-- (a, b, ..) = a list of that length -/
def gLs (K : PySem.W.Frag) (n : Nat) (t : TGs) : TG := fun v σ H Q => ∃ a xs, v = V.ref a ∧ (SqL K H a xs ∨ SqT K H a xs) ∧ xs.length = n ∧ t xs σ H Q
theorem pg_ls {es : List Expr} {k : Nat} {pos : Pos} {t : TGs} {n : Nat} (hc : X.calm = true) (h : PGs X es t) (hn : (assignEach es X.env).length = n) (hst : (assignEach es X.env).findIdx? (·.1) = none) : PG X (.Tuple es k pos) (gLs X.K n t) := by
  refine ⟨fun pins s σ H v u Q I r hw => ?_⟩
  obtain ⟨a, xs, e1, hq, hl, hw⟩ := hw
  rcases hq with hq | hq
  · subst e1
    cases r
    obtain ⟨its, rv, pl, hz⟩ := I.list hq
    have hlen : (assignEach es X.env).length = its.toArray.size := by rw [hn, ← hl, rv.length, List.size_toArray]
    show wpAny (model X.prog X.w) X.A (assign (.Tuple es k pos) X.env (.ref a)) _ _ _
    have fin : wpAny (model X.prog X.w) X.A (unpack (.ref a) (assignEach es X.env)) (fun _ s' => ∃ σ' H', Inv X pins σ' H' s' ∧ Q σ' H') X.xe s := by
      unfold unpack
      rw [hlen, hst]
      refine wpAny_bind (wpAny_holding (PySem.W.kun_itemsOf (I.ok.hd hc) pl.isList fun h' hx => ?_))
      have I1 : Inv X pins σ H { s with heap := h' } := I.kept (t' := s.toks) fun b o e => hx b o (Nat.ne_of_lt (Heap.lt_size e)) e
      exact h.run pins _ σ H xs _ Q I1 (by simpa using rv) hw
    rw [arm_assign_Tuple]
    exact wpAny_bind (wpAny_standAt fin)
  · exact (pg_tup (n := n) hc h hn hst).run pins s σ H v u Q I r ⟨a, xs, e1, hq, hl, hw⟩
mutual
theorem sG (hc : X.calm = true) (hN : X.N.Nodup) {fn : Str → Bool} (hf : ∀ x, fn x = true → X.fn x = true) : ∀ {g : Ag} {e : Expr}, mG L X.N fn X.env.scope g e = true → PG X e (tG (kx X) g)
  | .nm i, e, hm => by
    cases e <;> try (cases hm; done)
    rename_i x pos
    simp only [mG, Bool.and_eq_true, Bool.or_eq_true, decide_eq_true_eq] at hm
    obtain ⟨⟨h1, h2⟩, h3⟩ := hm
    have hf' : X.fn x = true ∨ X.env.scope.names.lookup x = some .local := h3.imp (hf x) onlyLoc_of
    refine ⟨fun pins s σ H v u Q I r q => (pg_name hN h1 (loc_of h2) hf').run pins s σ H v u Q I r ?_⟩
    obtain ⟨Z, G, ι, h, ρ, x, ρ', R, S, rx, hb, k⟩ := q
    unfold bindG at hb
    split at hb
    · cases hb
      refine k _ (S.set rx) (List.length_set ..) fun j hj => ?_
      have : i ≠ j := fun e => hj (by subst e; exact List.mem_singleton.mpr rfl)
      exact List.getElem?_set_ne this
    · cases hb
  | .tp gs, e, hm => by
    cases e <;> try (cases hm; done)
    rename_i xs kk pos
    have hm' : mGs L X.N fn X.env.scope gs xs = true := hm
    obtain ⟨h1, h2, h3⟩ := sGs hc hN hf hm'
    refine ⟨fun pins s σ H v u Q I r q => (pg_ls (n := xs.length) hc h1 h2 h3).run pins s σ H v u Q I r ?_⟩
    obtain ⟨Z, G, ι, h, ρ, x, ρ', R, S, rx, hb, k⟩ := q
    unfold bindG at hb
    split at hb
    · rename_i ys e1
      obtain ⟨a, vs, rfl, hs, rvs⟩ := (items_of R rx e1).sq
      refine ⟨a, vs, rfl, hs, ?_, Z, G, ι, h, ρ, ys, ρ', R, S, rvs, hb, k⟩
      rw [← rvs.length]
      exact bindGs_len hm' hb
    · cases hb
theorem sGs (hc : X.calm = true) (hN : X.N.Nodup) {fn : Str → Bool} (hf : ∀ x, fn x = true → X.fn x = true) : ∀ {gs : Ags} {es : List Expr}, mGs L X.N fn X.env.scope gs es = true → PGs X es (tGs (kx X) gs) ∧ (assignEach es X.env).length = es.length ∧ (assignEach es X.env).findIdx? (·.1) = none
  | .nil, es, hm => by
    cases es with
    | cons _ _ => cases hm
    | nil =>
      refine ⟨⟨fun pins s σ H vs us Q I r q => pgs_nil.run pins s σ H vs us Q I r ?_⟩, rfl, rfl⟩
      obtain ⟨Z, G, ι, h, ρ, xs, ρ', R, S, rx, hb, k⟩ := q
      cases xs with
      | cons _ _ => simp [bindGs] at hb
      | nil =>
        simp only [bindGs, Option.some.injEq] at hb
        subst hb
        exact ⟨rx.nil_inv, k σ S rfl fun _ _ => rfl⟩
  | .cons g gs, es, hm => by
    cases es with
    | nil => cases hm
    | cons e es =>
      unfold mGs at hm
      rw [Bool.and_eq_true] at hm
      have h1 := sG hc hN hf hm.1
      obtain ⟨h2, h3, h4⟩ := sGs hc hN hf hm.2
      have hst := star_of (X := X) hm.1 es
      refine ⟨⟨fun pins s σ H vs us Q I r q => (pgs_cons h1 h2 (by rw [hst]; rfl)).run pins s σ H vs us Q I r ?_⟩, by rw [hst, List.length_cons, List.length_cons, h3], by rw [hst, List.findIdx?_cons, if_neg (by simp), h4]; rfl⟩
      obtain ⟨Z, G, ι, h, ρ, xs, ρ', R, S, rx, hb, k⟩ := q
      cases xs with
      | nil => simp [bindGs] at hb
      | cons x xs =>
        obtain ⟨v, ws, rfl, r1, r2⟩ := rx.cons_inv
        unfold bindGs at hb
        split at hb
        · rename_i ρ1 h5
          refine ⟨v, ws, rfl, Z, G, ι, h, ρ, x, ρ1, R, S, r1, h5, fun σ1 S1 l1 k1 => ?_⟩
          refine ⟨Z, G, ι, h, ρ1, xs, ρ', R, S1, r2, hb, fun σ2 S2 l2 k2 => k σ2 S2 (l2.trans l1) fun i hi => ?_⟩
          have e : Ag.slots.gsl (.cons g gs) = g.slots ++ Ag.slots.gsl gs := rfl
          rw [e, List.mem_append, not_or] at hi
          exact (k2 i hi.2).trans (k1 i hi.1)
        · cases hb
end
end

/-! ### what loops go through -/
/-- an iterator serves the items while the lists stay -/
structure Jok (K : Wr) (G0 : Hp) (ι0 : List Addr) (s : Src) (J : It) : Prop where
  stop : ∀ Z G ι h H i, Up G0 G → Pre ι0 ι → HR K Z G ι h H → chk s.1 h → s.2.length = i → J.stop i H
  go : ∀ Z G ι h H i, Up G0 G → Pre ι0 ι → HR K Z G ι h H → chk s.1 h → i < s.2.length → J.go i H
  yld : ∀ Z G ι h H i v H' x, Up G0 G → Pre ι0 ι → HR K Z G ι h H → chk s.1 h → s.2[i]? = some x → J.yld i H v H' → ∃ G' ι', Nx K Z G ι H G' ι' h H' ∧ RV K G' ι' x v
abbrev rJ (K : Wr) : Hp → List Addr → Src → It → Prop := fun G ι s J => Jok K G ι s J
def tI (exc : List Str) (K : Wr) (W : WX) (r : Env' → MH → Res Src) : TI := fun σ H R => ∃ Z G ι h ρ, HR K Z G ι h H ∧ SR K G ι ρ σ ∧ RP exc K (rJ K) Z G ι H (r ρ h) R (fun cls d H' => W cls d σ H')
theorem _root_.L2.PI.weak {X : Cx} {tg e : Expr} {t t' : TI} (h : PI X tg e t) (k : ∀ σ H Q, t' σ H Q → t σ H Q) : PI X tg e t' := ⟨fun pins s σ H Q I q => h.run pins s σ H Q I (k σ H Q q)⟩
/-- an iterator that reads a row as it stands -/
theorem jok_of {K : Wr} {G0 : Hp} {ι0 : List Addr} {s : Src} {J : It} (rd : ∀ Z G ι h H, Up G0 G → Pre ι0 ι → HR K Z G ι h H → chk s.1 h → ∃ vs, RVs K G ι s.2 vs ∧ (∀ i, vs.length ≤ i → J.stop i H) ∧ (∀ i, i < vs.length → J.go i H) ∧ ∀ i v H', J.yld i H v H' → i < vs.length → H' = H ∧ vs[i]? = some v) : Jok K G0 ι0 s J where
  stop := fun Z G ι h H i a b c d e => by
    obtain ⟨vs, r, k1, k2, k3⟩ := rd Z G ι h H a b c d
    exact k1 i (by rw [← r.length]; exact Nat.le_of_eq e)
  go := fun Z G ι h H i a b c d e => by
    obtain ⟨vs, r, k1, k2, k3⟩ := rd Z G ι h H a b c d
    exact k2 i (by rw [← r.length]; exact e)
  yld := fun Z G ι h H i v H' x a b c d e y => by
    obtain ⟨vs, r, k1, k2, k3⟩ := rd Z G ι h H a b c d
    have hi : i < vs.length := by rw [← r.length]; exact (List.getElem?_eq_some_iff.mp e).1
    obtain ⟨rfl, q⟩ := k3 i v H' y hi
    obtain ⟨w, q2, q3⟩ := r.get e
    rw [q] at q2; cases q2
    exact ⟨G, ι, Nx.refl c, q3⟩
theorem seqL_jok {K : Wr} {G0 : Hp} {ι0 : List Addr} {s : Src} {a : Addr} (rd : ∀ Z G ι h H, Up G0 G → Pre ι0 ι → HR K Z G ι h H → chk s.1 h → ∃ vs, RVs K G ι s.2 vs ∧ SqL K.K H a vs) : Jok K G0 ι0 s (Itl K.K a) :=
  jok_of fun Z G ι h H x y z w => by
    obtain ⟨vs, r, q⟩ := rd Z G ι h H x y z w
    exact ⟨vs, r, fun i hi => ⟨vs, q, hi⟩, fun i hi => ⟨vs, vs[i], q, List.getElem?_eq_getElem hi⟩, fun i v H' y hi => ⟨y.1, y.2 vs q⟩⟩
theorem seqT_jok {K : Wr} {G0 : Hp} {ι0 : List Addr} {s : Src} {a : Addr} (rd : ∀ Z G ι h H, Up G0 G → Pre ι0 ι → HR K Z G ι h H → chk s.1 h → ∃ vs, RVs K G ι s.2 vs ∧ SqT K.K H a vs) : Jok K G0 ι0 s (Itt K.K a) :=
  jok_of fun Z G ι h H x y z w => by
    obtain ⟨vs, r, q⟩ := rd Z G ι h H x y z w
    exact ⟨vs, r, fun i hi => ⟨vs, q, hi⟩, fun i hi => ⟨vs, vs[i], q, List.getElem?_eq_getElem hi⟩, fun i v H' y hi => ⟨y.1, y.2 vs q⟩⟩
theorem str_jok {K : Wr} {G0 : Hp} {ι0 : List Addr} {x : Str} : Jok K G0 ι0 ([], x.cps.toList.map fun c => PV.str ⟨#[c]⟩) (Its x) :=
  jok_of fun Z G ι h H _ _ _ _ => by
    have e : ∀ l : List Nat, RVs K G ι (l.map fun c => PV.str ⟨#[c]⟩) (l.map fun c => V.str ⟨#[c]⟩) := fun l => by
      induction l with
      | nil => exact .nil
      | cons c l ih => exact .cons (.str _) ih
    refine ⟨x.cps.toList.map fun c => V.str ⟨#[c]⟩, e _, fun i hi => ?_, fun i hi => ?_, fun i v H' y hi => ?_⟩
    · simpa [Its] using hi
    · simpa [Its] using hi
    · obtain ⟨e1, c, e2, e3⟩ := y
      refine ⟨e1, ?_⟩
      subst e3
      rw [List.getElem?_map, Array.getElem?_toList, e2]
      rfl
theorem rng_jok {K : Wr} {G0 : Hp} {ι0 : List Addr} {lo : Int} {n : Nat} : Jok K G0 ι0 ([], (List.range n).map fun (k : Nat) => PV.int (lo + (k : Int))) (Itr lo n) :=
  jok_of fun Z G ι h H _ _ _ _ => by
    have e : ∀ l : List Nat, RVs K G ι (l.map fun (k : Nat) => PV.int (lo + (k : Int))) (l.map fun (k : Nat) => V.int (lo + (k : Int))) := fun l => by
      induction l with
      | nil => exact .nil
      | cons c l ih => exact .cons (.int _) ih
    refine ⟨(List.range n).map fun (k : Nat) => V.int (lo + (k : Int)), e _, fun i hi => ?_, fun i hi => ?_, fun i v H' y hi => ?_⟩
    · simpa [Itr] using hi
    · simpa [Itr] using hi
    · obtain ⟨e1, e2⟩ := y
      refine ⟨e1, ?_⟩
      subst e2
      have hi' : i < n := by simpa using hi
      rw [List.getElem?_map, List.getElem?_range hi']
      rfl
section
variable {X : Cx} {tg : Expr} {exc : List Str} {W : WX}
/-- over a list, a tuple, a text -/
def iAny (K : PySem.W.Frag) (tl : TE) : TI := fun σ H R => tl σ H fun x H1 => (∃ a, x = .ref a ∧ (((∃ xs, SqL K H1 a xs) ∧ R (Itl K a) H1) ∨ ((∃ xs, SqT K H1 a xs) ∧ R (Itt K a) H1))) ∨ ∃ y, x = .str y ∧ R (Its y) H1
theorem pi_any {l : Expr} {tl : TE} (hl : PE X l tl) : PI X tg l (iAny X.K tl) := by
  refine ⟨fun pins s σ H R I h => ?_⟩
  refine thn (hl.run pins s σ H _ I h) fun v s1 ⟨x, H1, I1, r1, q1⟩ => ?_
  rcases q1 with ⟨a, e, ⟨⟨xs, hq⟩, q⟩ | ⟨⟨xs, hq⟩, q⟩⟩ | ⟨y, e, q⟩
  · subst e
    cases r1
    obtain ⟨its, rv, p, hz⟩ := I1.list hq
    refine wpAny_pyIter_list p.isList ?_
    refine ⟨s1.heap.objs.size, [s1.heap.objs.size], _, _, H1, rfl, I1.kept (t' := s1.toks) fun b o e => Heap.get?_push_of_some _ e, turn_list a _, ⟨_, Heap.get?_push_size _ rfl, rfl, rfl⟩, fun b hb => ?_, q⟩
    have e : b = s1.heap.objs.size := by simpa using hb
    subst e
    exact I1.fpOk (Nat.le_refl _) (I1.hok.fresh (Nat.le_refl _))
  · subst e
    cases r1
    obtain ⟨its, rv, p, hz⟩ := I1.tuple hq
    refine wpAny_pyIter_tuple (show s1.heap.IsTuple a its.toArray from p) ?_
    refine ⟨s1.heap.objs.size, [s1.heap.objs.size], _, _, H1, rfl, I1.kept (t' := s1.toks) fun b o e => Heap.get?_push_of_some _ e, turn_tuple a _, ⟨_, Heap.get?_push_size _ rfl, rfl, rfl⟩, fun b hb => ?_, q⟩
    have e : b = s1.heap.objs.size := by simpa using hb
    subst e
    exact I1.fpOk (Nat.le_refl _) (I1.hok.fresh (Nat.le_refl _))
  · subst e
    obtain ⟨t, rfl⟩ := r1
    cases ha : y.cps.all (· < 128)
    · exact wpAny_pyIter_wide ha (pi_one (tk := s1.toks) I1 _ (turn_str _ y t "str_iterator" (.inr rfl)) ⟨_, Heap.get?_push_size _ rfl, rfl, rfl⟩ q)
    · exact wpAny_pyIter_ascii ha (pi_one (tk := s1.toks) I1 _ (turn_str _ y t "str_ascii_iterator" (.inl rfl)) ⟨_, Heap.get?_push_size _ rfl, rfl, rfl⟩ q)
theorem mi_any {l : Expr} {r : Env' → MH → Res PV} (hl : PE X l (tE exc (kx X) W r)) : PI X tg l (tI exc (kx X) W fun ρ h => (r ρ h).bind fun x h => match src x h with
    | some s => .ok s h
    | none => .stuck) := by
  refine (pi_any hl).weak fun σ H Q q => ?_
  obtain ⟨Z, G, ι, h, ρ, R, S, p⟩ := q
  refine ⟨Z, G, ι, h, ρ, R, S, p.bind fun x h1 G1 ι1 H1 vx n1 rx p1 => ?_⟩
  split at p1
  · rename_i s es
    unfold src at es
    split at es
    · cases es
      obtain ⟨a, vs, rfl, hs, rvs⟩ := rx.tup_inv
      refine .inl ⟨a, rfl, .inr ⟨⟨vs, Same.seqT n1.hr.sub hs.sqT⟩, RP.ok_here p1 n1.hr (seqT_jok fun Z' G' ι' h' H' a1 b1 c1 d1 => ⟨vs, rvs.mono a1 b1, Same.seqT c1.sub (a1.seqT hs.sqT)⟩)⟩⟩
    · cases es
      obtain ⟨a, vs, rfl, hs, rvs⟩ := rx.lst_inv
      refine .inl ⟨a, rfl, .inl ⟨⟨vs, .inl (rd_same n1.hr.sub hs)⟩, RP.ok_here p1 n1.hr (seqL_jok fun Z' G' ι' h' H' a1 b1 c1 d1 => ⟨vs, rvs.mono a1 b1, .inl (rd_same c1.sub (a1.rd hs))⟩)⟩⟩
    · rename_i y
      cases es
      have := rx.str_inv
      subst this
      exact .inr ⟨y, rfl, RP.ok_here p1 n1.hr str_jok⟩
    · rename_i n
      split at es
      · rename_i xs e
        cases es
        obtain ⟨a, vs, rfl, hn, hH, rvs⟩ := ref_lst n1.hr rx e
        refine .inl ⟨a, rfl, .inl ⟨⟨vs, .of hH⟩, RP.ok_here p1 n1.hr (seqL_jok fun Z' G' ι' h' H' a1 b1 c1 d1 => ?_)⟩⟩
        have e' := d1 (n, xs) (List.mem_singleton.mpr rfl)
        obtain ⟨a', vs', ea, hn', hH', rvs'⟩ := ref_lst c1 (.ref (b1 _ _ hn)) e'
        cases ea
        exact ⟨vs', rvs', .of hH'⟩
      · cases es
    · cases es
  · exact p1.elim
theorem mi_range1 {a : Expr} {p pos : Pos} {r : Env' → MH → Res PV} (hg : Gl X "range") (hm : X.mg "range" = none) (ha : PE X a (tE exc (kx X) W r)) (hs : starEach [a] X.env = [(false, eval a X.env)]) :
    PI X tg (.Call (.Name "range" p) [a] [] pos) (tI exc (kx X) W fun ρ h => (r ρ h).bind fun x h => match x with
    | .int j => if -(2 ^ 62) ≤ j ∧ j < 2 ^ 62 then .ok ([], (List.range j.toNat).map fun (k : Nat) => PV.int (k : Int)) h else .stuck
    | _ => .stuck) := by
  refine (pi_range1 hg hm (pa_cons ha pa_nil (by rw [hs]; rfl)) hs).weak fun σ H Q q => ?_
  obtain ⟨Z, G, ι, h, ρ, R, S, p⟩ := q
  refine ⟨Z, G, ι, h, ρ, R, S, p.bind fun x h1 G1 ι1 H1 vx n1 rx p1 => ?_⟩
  split at p1
  · rename_i j
    split at p1
    · rename_i hj
      refine ⟨j, by rw [rx.int_inv], hj.1, hj.2, RP.ok_here p1 n1.hr ?_⟩
      have := rng_jok (K := kx X) (G0 := G1) (ι0 := ι1) (lo := 0) (n := j.toNat)
      simpa using this
    · exact p1.elim
  · exact p1.elim
theorem mi_range2 {a b : Expr} {p pos : Pos} {ra rb : Env' → MH → Res PV} (hg : Gl X "range") (hm : X.mg "range" = none) (ha : PE X a (tE exc (kx X) W ra)) (hb : PE X b (tE exc (kx X) W rb)) (hs : starEach [a, b] X.env = [(false, eval a X.env), (false, eval b X.env)]) (hs2 : starEach [b] X.env = [(false, eval b X.env)]) :
    PI X tg (.Call (.Name "range" p) [a, b] [] pos) (tI exc (kx X) W fun ρ h => (ra ρ h).bind fun x h => (rb ρ h).bind fun y h => match x, y with
    | .int i, .int j => if -(2 ^ 62) ≤ i ∧ i < 2 ^ 62 ∧ -(2 ^ 62) ≤ j ∧ j < 2 ^ 62 then .ok ([], (List.range (j - i).toNat).map fun (k : Nat) => PV.int (i + (k : Int))) h else .stuck
    | _, _ => .stuck) := by
  refine (pi_range2 hg hm (pa_cons ha (pa_cons hb pa_nil (by rw [hs2]; rfl)) (by rw [hs, hs2])) hs hs2).weak fun σ H Q q => ?_
  obtain ⟨Z, G, ι, h, ρ, R, S, p⟩ := q
  refine ⟨Z, G, ι, h, ρ, R, S, p.bind fun x h1 G1 ι1 H1 vx n1 rx p1 => ?_⟩
  refine ⟨Z, G1, ι1, h1, ρ, n1.hr, S.mono n1.same n1.pre, p1.bind fun y h2 G2 ι2 H2 vy n2 ry p2 => ?_⟩
  split at p2
  · rename_i i j
    split at p2
    · rename_i hj
      exact ⟨i, j, by rw [rx.int_inv, ry.int_inv], hj, RP.ok_here p2 n2.hr rng_jok⟩
    · exact p2.elim
  · exact p2.elim
end
end Mx

end

section
set_option Elab.async false
set_option Elab.async false
set_option linter.all false
set_option maxRecDepth 100000
set_option maxHeartbeats 4000000
/-! zip of lists and tuples in loops; ranges with a step. -/
namespace Mx
open PySem PySem.Spec PyProof.Rows L2
/-- a list (true) or a tuple (false) -/
def rdK (k : Bool) (K : PySem.W.Frag) (H : Hp) (a : Addr) (xs : List V) : Prop := if k = true then SqL K H a xs else SqT K H a xs
def itK (k : Bool) (h : Heap) (it a : Addr) (i : Nat) : Prop := if k = true then h.IsListIter it a i else h.IsTupleIter it a i
def sqK (k : Bool) (h : Heap) (a : Addr) (items : Array Value) : Prop := if k = true then h.IsList a items else h.IsTuple a items
def obK (k : Bool) (a : Addr) : Obj := if k = true then { cls := .type "list_iterator", data := .fields #[.ref a, .int 0 0] } else { cls := .type "tuple_iterator", data := .fields #[.ref a, .int 0 0] }
theorem drawK {prog : Program} {w : World} {A : Around} (hh : A.handled = none) (k : Bool) (it a : Addr) (hne : a ≠ it) (items : Array Value) : Draws prog w A it [it, a] items.size (fun i v => items[i]? = some v) (fun i h => itK k h it a i ∧ sqK k h a items) := by
  cases k with
  | true => exact Draws.list hh it a hne items
  | false => exact Draws.tuple hh it a hne items
theorem begK (k : Bool) (a : Addr) (items : Array Value) : Begins (.ref a) (obK k a) (fun h => sqK k h a items) := by
  cases k with
  | true => exact begins_list a items
  | false => exact begins_tuple a items
theorem itK_obj {k : Bool} {h : Heap} {it a : Addr} {i : Nat} (e : itK k h it a i) : ∃ o, h.get? it = some o ∧ ∀ v, o.data ≠ .cell v := by
  cases k with
  | true => obtain ⟨o, ho, _, hd⟩ := (show h.IsListIter it a i from e); exact ⟨o, ho, fun v q => by rw [hd] at q; cases q⟩
  | false => obtain ⟨o, ho, _, hd⟩ := (show h.IsTupleIter it a i from e); exact ⟨o, ho, fun v q => by rw [hd] at q; cases q⟩
theorem itK_at {k : Bool} {h h' : Heap} {it a : Addr} {i : Nat} (e : itK k h it a i) (f : ∀ o, h.get? it = some o → h'.get? it = some o) : itK k h' it a i := by
  cases k with
  | true => exact (show h.IsListIter it a i from e).at fun o q => f o q
  | false => exact (show h.IsTupleIter it a i from e).at fun o q => f o q
theorem itK_0 {k : Bool} {h : Heap} {it a : Addr} (e : h.get? it = some (obK k a)) : itK k h it a 0 := by
  cases k with
  | true => exact ⟨_, e, rfl, rfl⟩
  | false => exact ⟨_, e, rfl, rfl⟩
section
variable {X : Cx} {pins : List (Addr × Obj)} {σ : L2.St} {H : Hp} {s : Shared}
theorem rdK_its (I : Inv X pins σ H s) {k : Bool} {a : Addr} {xs : List V} (h : rdK k X.K H a xs) : ∃ its : List Value, Vals xs its ∧ sqK k s.heap a its.toArray ∧ a < s.heap.objs.size := by
  cases k with
  | true =>
    obtain ⟨its, rv, p, hz⟩ := I.list h
    exact ⟨its, rv, p.isList, p.lt⟩
  | false =>
    obtain ⟨its, rv, p, hz⟩ := I.tuple h
    obtain ⟨o1, ho1, _⟩ := id p
    exact ⟨its, rv, (show s.heap.IsTuple a its.toArray from p), Heap.lt_size ho1⟩
theorem rdK_inj (I : Inv X pins σ H s) {k : Bool} {a : Addr} {xs ys : List V} (h : rdK k X.K H a xs) (h' : rdK k X.K H a ys) : xs = ys := by
  cases k with
  | true => exact I.list_inj h h'
  | false => exact I.tuple_inj h h'
end
/-- the turns of a zip -/
def ItZ (K : PySem.W.Frag) (k1 k2 : Bool) (a b : Addr) : It :=
  ⟨fun i H => ∃ (xs ys : List V) (x y : V), rdK k1 K H a xs ∧ rdK k2 K H b ys ∧ xs[i]? = some x ∧ ys[i]? = some y,
    fun i H v H' => ∃ T x y o, v = .ref T ∧ H T = none ∧ o.dict = none ∧ H' = upd H T (.frz o (.tup [x, y])) ∧ (∀ xs, rdK k1 K H a xs → xs[i]? = some x) ∧ ∀ ys, rdK k2 K H b ys → ys[i]? = some y,
    fun i H => ∃ xs ys : List V, rdK k1 K H a xs ∧ rdK k2 K H b ys ∧ i ≤ xs.length ∧ i ≤ ys.length ∧ (xs.length = i ∨ ys.length = i)⟩
theorem turn_zipK {P : Program} {w : World} {K : PySem.W.Frag} {elts : List Expr} {kk : Nat} {tpos : Pos} {k1 k2 : Bool} {a b z TI TO i1 i2 : Addr} (S : ZipSep2 z TI TO i1 i2 [i1, a] [i2, b]) (na : a ≠ i1) (nb : b ≠ i2) :
    Turn P w K (.Tuple elts kk tpos) (ItZ K k1 k2 a b) [z, TI, TO, i1, i2] z (fun i h => IsZip h z TI TO .none ∧ IsTupOf2 h TI (.ref i1) (.ref i2) ∧ (∃ x y, IsTupOf2 h TO x y) ∧ itK k1 h i1 a i ∧ itK k2 h i2 b i) where
  mem := by simp
  obj := fun i h st c hc => by
    obtain ⟨hz, hTI, ⟨x, y, hTO⟩, h1, h2⟩ := st
    have e' : c = z ∨ c = TI ∨ c = TO ∨ c = i1 ∨ c = i2 := by simpa using hc
    rcases e' with rfl | rfl | rfl | rfl | rfl
    · exact ⟨_, hz, fun v q => nomatch q⟩
    · exact ⟨_, hTI, fun v q => nomatch q⟩
    · exact ⟨_, hTO, fun v q => nomatch q⟩
    · exact itK_obj h1
    · exact itK_obj h2
  keep := fun i h h' st k => by
    obtain ⟨hz, hTI, ⟨x, y, hTO⟩, h1, h2⟩ := st
    exact ⟨k z (by simp) _ hz, k TI (by simp) _ hTI, ⟨x, y, k TO (by simp) _ hTO⟩, itK_at h1 fun o q => k i1 (by simp) o q, itK_at h2 fun o q => k i2 (by simp) o q⟩
  item := by
    intro X hP hw hK hc i pins s σ H E I hf st hg
    subst hP hw hK
    obtain ⟨hz, hTI, ⟨x0, y0, hTO⟩, h1, h2⟩ := st
    obtain ⟨xs, ys, x, y, hqx, hqy, hx, hy⟩ := hg
    obtain ⟨its, rv, p1, _⟩ := rdK_its I hqx
    obtain ⟨its2, rv2, p2, _⟩ := rdK_its I hqy
    obtain ⟨u, hu, ru⟩ := rv.get hx
    obtain ⟨u2, hu2, ru2⟩ := rv2.get hy
    have hzl : z < s.heap.objs.size := Heap.lt_size hz
    have D1 : Draws X.prog X.w X.A.in1 i1 [i1, a] its.toArray.size (fun i v => its.toArray[i]? = some v) (fun i h => itK k1 h i1 a i ∧ sqK k1 h a its.toArray) := drawK (A := X.A.in1) (I.ok.hd hc) k1 i1 a na its.toArray
    have D2 : Draws X.prog X.w X.A.in1 i2 [i2, b] its2.toArray.size (fun i v => its2.toArray[i]? = some v) (fun i h => itK k2 h i2 b i ∧ sqK k2 h b its2.toArray) := drawK (A := X.A.in1) (I.ok.hd hc) k2 i2 b nb its2.toArray
    have lu : i < its.toArray.size := by simpa using (List.getElem?_eq_some_iff.mp hu).1
    have lu2 : i < its2.toArray.size := by simpa using (List.getElem?_eq_some_iff.mp hu2).1
    refine wpAny_pyNext_zipD2_item S D1 D2 hz hTI hTO ⟨h1, p1⟩ ⟨h2, p2⟩ lu lu2 fun v1 v2 h' tk e1 e2 z' TO' st1 st2 hT hsz hk => ?_
    obtain rfl : u = v1 := by
      have : its[i]? = some v1 := by simpa using e1
      rw [hu] at this; exact Option.some.inj this
    obtain rfl : u2 = v2 := by
      have : its2[i]? = some v2 := by simpa using e2
      rw [hu2] at this; exact Option.some.inj this
    refine ⟨_, rfl, wpAny_letOwnedTupleGo_zip (s := { s with heap := h', toks := tk }) z' fun h'' z'' sb => ?_⟩
    have hT2 : h''.get? s.heap.objs.size = some { cls := .type "tuple", data := .seq #[u, u2] } := (sb.2 _ (Nat.ne_of_gt hzl)).trans hT
    have new : ObjOk X.prog X.w (upd H s.heap.objs.size (.frz { cls := .type "tuple", data := .seq #[u, u2] } (.tup [x, y]))) h'' s.heap.objs.size (.frz { cls := .type "tuple", data := .seq #[u, u2] } (.tup [x, y])) :=
      ⟨hT2, by show 2 ≤ sizeLine; decide, [u, u2], .cons ru (.cons ru2 .nil), ⟨_, hT2, rfl, _, rfl⟩⟩
    have kp : ∀ c o, c ∉ [z, TI, TO, i1, i2] → s.heap.get? c = some o → h''.get? c = some o := fun c o hb q =>
      (sb.2 c (fun q' => hb (by simp [q']))).trans (hk c o (fun q' => hb (by simp [q'])) (fun q' => hb (by simp [q'])) (fun q' => hb (by simp [q'])) (fun q' => hb (by simp [q'])) q)
    have I1 : Inv X pins σ (upd H s.heap.objs.size (.frz { cls := .type "tuple", data := .seq #[u, u2] } (.tup [x, y]))) { s with heap := h'', toks := tk } :=
      I.turnedNew (t' := tk) (ch := [z, TI, TO, i1, i2]) kp hf (Nat.le_refl _) new
    refine ⟨.ref s.heap.objs.size, _, I1, rfl, ⟨_, x, y, _, rfl, I.hok.fresh (Nat.le_refl _), rfl, rfl, fun l hl => by rw [rdK_inj I hl hqx]; exact hx, fun l hl => by rw [rdK_inj I hl hqy]; exact hy⟩, ⟨z'', ?_, ⟨u, u2, ?_⟩, ?_, ?_⟩, fun c hcm => ?_⟩
    · exact (sb.2 _ S.TIz).trans (hk _ _ S.TIz S.TITO S.TIi1 S.TIi2 hTI)
    · exact (sb.2 _ S.TOz).trans TO'
    · exact itK_at st1.1 fun o q => (sb.2 _ (Ne.symm S.zi1)).trans q
    · exact itK_at st2.1 fun o q => (sb.2 _ (Ne.symm S.zi2)).trans q
    · have hlt : c < s.heap.objs.size := by
        have e' : c = z ∨ c = TI ∨ c = TO ∨ c = i1 ∨ c = i2 := by simpa using hcm
        rcases e' with rfl | rfl | rfl | rfl | rfl
        · exact hzl
        · exact Heap.lt_size hTI
        · exact Heap.lt_size hTO
        · obtain ⟨_, e1, _⟩ := itK_obj h1; exact Heap.lt_size e1
        · obtain ⟨_, e2, _⟩ := itK_obj h2; exact Heap.lt_size e2
      rw [upd_ne (Nat.ne_of_lt hlt)]
      exact (hf c hcm).1
  done := by
    intro X hP hw hK hc i pins s σ H E I hf st hg
    subst hP hw hK
    obtain ⟨hz, hTI, ⟨x0, y0, hTO⟩, h1, h2⟩ := st
    obtain ⟨xs, ys, hqx, hqy, g1, g2, hend⟩ := hg
    obtain ⟨its, rv, p1, _⟩ := rdK_its I hqx
    obtain ⟨its2, rv2, p2, _⟩ := rdK_its I hqy
    have l1 := rv.length
    have l2 := rv2.length
    have D1 : Draws X.prog X.w X.A.in1 i1 [i1, a] its.toArray.size (fun i v => its.toArray[i]? = some v) (fun i h => itK k1 h i1 a i ∧ sqK k1 h a its.toArray) := drawK (A := X.A.in1) (I.ok.hd hc) k1 i1 a na its.toArray
    have D2 : Draws X.prog X.w X.A.in1 i2 [i2, b] its2.toArray.size (fun i v => its2.toArray[i]? = some v) (fun i h => itK k2 h i2 b i ∧ sqK k2 h b its2.toArray) := drawK (A := X.A.in1) (I.ok.hd hc) k2 i2 b nb its2.toArray
    refine wpAny_pyNext_zipD2_end S D1 D2 hz hTI hTO ⟨h1, p1⟩ ⟨h2, p2⟩ (by simp only [List.size_toArray]; omega) (by simp only [List.size_toArray]; omega) (by simp only [List.size_toArray]; omega) fun h' tk hk => ⟨rfl, ?_⟩
    exact I.turnedL (t' := tk) (ch := [z, TI, TO, i1, i2]) (fun c o hb q =>
      hk c o (fun q' => hb (by simp [q'])) (fun q' => hb (by simp [q'])) (fun q' => hb (by simp [q'])) (fun q' => hb (by simp [q'])) q) hf
  self := fun A i s Q E st h => wpAny_pyIter_zip st.1 h
def iZipK (K : PySem.W.Frag) (ta : TA) : TI := fun σ H R => ta σ H fun vs H1 => ∃ k1 k2 a b xs ys, vs = [.ref a, .ref b] ∧ rdK k1 K H1 a xs ∧ rdK k2 K H1 b ys ∧ R (ItZ K k1 k2 a b) H1
theorem pi_zipK {X : Cx} {e e2 : Expr} {ta : TA} {p pos tpos : Pos} {elts : List Expr} {kk : Nat} (hg : Gl X "zip") (hm : X.mg "zip" = none) (ha : PA X [e, e2] ta)
    (hs : starEach [e, e2] X.env = (false, eval e X.env) :: starEach [e2] X.env) (hpl : (backTo pos (starEach [e2] X.env)).any (·.1) = false) :
    PI X (.Tuple elts kk tpos) (.Call (.Name "zip" p) [e, e2] [] pos) (iZipK X.K ta) := by
  refine ⟨fun pins s σ H R I h => ?_⟩
  refine Call_ (ld_blt I hg hm PyProof.Rows.boot_zip (PyProof.Rows.callWith_type1 (thn (ha.run pos pins s σ H _ I h) fun us s1 ⟨vs, H1, I1, r1, q1⟩ => ?_) hs hpl))
  obtain ⟨k1, k2, a, b, xs, ys, rfl, hqx, hqy, q⟩ := q1
  obtain ⟨u1, u2, rfl, r2, r3⟩ := r1.two
  cases r2
  cases r3
  obtain ⟨its, rv1, p1, lt1⟩ := rdK_its I1 hqx
  obtain ⟨its2, rv2, p2, lt2⟩ := rdK_its I1 hqy
  refine zip_begins2 (begK k1 a its.toArray) (begK k2 b its2.toArray) p1 p2 fun h' hz hTI hTO e1 e2 hsz hkp => wpAny_pyIter_zip hz ?_
  have I2 : Inv X pins σ H1 { s1 with heap := h' } := I1.kept (t' := s1.toks) hkp
  have S := zip_sep2 (N := s1.heap.objs.size) (fp1 := [a]) (fp2 := [b]) (fun c hc => by rw [List.mem_singleton.mp hc]; exact lt1) (fun c hc => by rw [List.mem_singleton.mp hc]; exact lt2)
  refine ⟨s1.heap.objs.size + 4, [s1.heap.objs.size + 4, s1.heap.objs.size + 2, s1.heap.objs.size + 3, s1.heap.objs.size, s1.heap.objs.size + 1], _, _, H1, rfl, I2, turn_zipK S (Nat.ne_of_lt lt1) (Nat.ne_of_lt (Nat.lt_succ_of_lt lt2)), ⟨hz, hTI, ⟨_, _, hTO⟩, itK_0 e1, itK_0 e2⟩, fun c hcm => ?_, q⟩
  have hle : s1.heap.objs.size ≤ c := by
    have e' : c = s1.heap.objs.size + 4 ∨ c = s1.heap.objs.size + 2 ∨ c = s1.heap.objs.size + 3 ∨ c = s1.heap.objs.size ∨ c = s1.heap.objs.size + 1 := by simpa using hcm
    rcases e' with z | z | z | z | z
    · rw [z]; exact Nat.le_add_right _ _
    · rw [z]; exact Nat.le_add_right _ _
    · rw [z]; exact Nat.le_add_right _ _
    · rw [z]; exact Nat.le_refl _
    · rw [z]; exact Nat.le_add_right _ _
  exact I1.fpOk hle (I1.hok.fresh hle)
/-! ### what they read -/
section
variable {X : Cx} {tg : Expr} {exc : List Str} {W : WX}
/-- one side of a zip: a list or a tuple that stands -/
theorem src_rd {K : Wr} {Z : List Addr} {G1 : Hp} {ι1 : List Addr} {h1 : MH} {H1 : Hp} {x : PV} {v : V} {s : Src} (R : HR K Z G1 ι1 h1 H1) (rx : RV K G1 ι1 x v) (e : src x h1 = some s) (ns : isStr x = false) :
    ∃ k a vs, v = .ref a ∧ rdK k K.K H1 a vs ∧ ∀ Z G ι h H, Up G1 G → Pre ι1 ι → HR K Z G ι h H → chk s.1 h → ∃ ws, RVs K G ι s.2 ws ∧ rdK k K.K H a ws := by
  unfold src at e
  split at e
  · cases e
    obtain ⟨a, vs, rfl, hs, rvs⟩ := rx.tup_inv
    exact ⟨false, a, vs, rfl, Same.seqT R.sub hs.sqT, fun Z' G' ι' h' H' a1 b1 c1 d1 => ⟨vs, rvs.mono a1 b1, Same.seqT c1.sub (a1.seqT hs.sqT)⟩⟩
  · cases e
    obtain ⟨a, vs, rfl, hs, rvs⟩ := rx.lst_inv
    exact ⟨true, a, vs, rfl, .inl (rd_same R.sub hs), fun Z' G' ι' h' H' a1 b1 c1 d1 => ⟨vs, rvs.mono a1 b1, .inl (rd_same c1.sub (a1.rd hs))⟩⟩
  · cases ns
  · rename_i n
    split at e
    · rename_i xs e2
      cases e
      obtain ⟨a, vs, rfl, hn, hH, rvs⟩ := ref_lst R rx e2
      refine ⟨true, a, vs, rfl, .of hH, fun Z' G' ι' h' H' a1 b1 c1 d1 => ?_⟩
      have e' := d1 (n, xs) (List.mem_singleton.mpr rfl)
      obtain ⟨a', vs', ea, hn', hH', rvs'⟩ := ref_lst c1 (.ref (b1 _ _ hn)) e'
      cases ea
      exact ⟨vs', rvs', .of hH'⟩
    · cases e
  · cases e
theorem zip_get : ∀ {xs ys : List PV} {i : Nat} {p : PV × PV}, (xs.zip ys)[i]? = some p → xs[i]? = some p.1 ∧ ys[i]? = some p.2 := fun {xs ys i p} e => by
  have := List.getElem?_zip_eq_some.mp e
  exact this
theorem chk_app {l l' : List (Nat × List PV)} {h : MH} (c : chk (l ++ l') h) : chk l h ∧ chk l' h := ⟨fun p hp => c p (List.mem_append_left _ hp), fun p hp => c p (List.mem_append_right _ hp)⟩
theorem mi_zip2 {a b : Expr} {z : Str} {p pos tpos : Pos} {elts : List Expr} {kk : Nat} {ra rb : Env' → MH → Res PV} (hzn : z = ("zip" : Str)) (hg : Gl X z) (hm : X.mg z = none) (ha : PE X a (tE exc (kx X) W ra)) (hb : PE X b (tE exc (kx X) W rb))
    (hs : starEach [a, b] X.env = [(false, eval a X.env), (false, eval b X.env)]) (hs2 : starEach [b] X.env = [(false, eval b X.env)]) :
    PI X (.Tuple elts kk tpos) (.Call (.Name z p) [a, b] [] pos) (tI exc (kx X) W fun ρ h => (ra ρ h).bind fun x h => (rb ρ h).bind fun y h => match src x h, src y h with
    | some s, some t => if isStr x = false ∧ isStr y = false then .ok (s.1 ++ t.1, (s.2.zip t.2).map fun p => .tup [p.1, p.2]) h else .stuck
    | _, _ => .stuck) := by
  subst hzn
  refine (pi_zipK hg hm (pa_cons ha (pa_cons hb pa_nil (by rw [hs2]; rfl)) (by rw [hs, hs2])) (by rw [hs, hs2]) (by rw [hs2]; rfl)).weak fun σ H Q q => ?_
  obtain ⟨Z, G, ι, h, ρ, R, S, p⟩ := q
  refine ⟨Z, G, ι, h, ρ, R, S, p.bind fun x h1 G1 ι1 H1 vx n1 rx p1 => ?_⟩
  refine ⟨Z, G1, ι1, h1, ρ, n1.hr, S.mono n1.same n1.pre, p1.bind fun y h2 G2 ι2 H2 vy n2 ry p2 => ?_⟩
  split at p2
  · rename_i s t e1 e2
    split at p2
    · rename_i hn
      obtain ⟨k1, a1, vs, rfl, hd1, rd1⟩ := src_rd n2.hr (rx.mono n2.same n2.pre) e1 hn.1
      obtain ⟨k2, b1, ws, rfl, hd2, rd2⟩ := src_rd n2.hr ry e2 hn.2
      refine ⟨k1, k2, a1, b1, vs, ws, rfl, hd1, hd2, RP.ok_here p2 n2.hr ?_⟩
      have len : ∀ {Z G ι h H}, Up G2 G → Pre ι2 ι → HR (kx X) Z G ι h H → chk (s.1 ++ t.1) h → ∃ us ws, RVs (kx X) G ι s.2 us ∧ RVs (kx X) G ι t.2 ws ∧ rdK k1 X.K H a1 us ∧ rdK k2 X.K H b1 ws := fun {Z G ι h H} u1 u2 u3 u4 => by
        obtain ⟨c1, c2⟩ := chk_app u4
        obtain ⟨us, r1, q1⟩ := rd1 Z G ι h H u1 u2 u3 c1
        obtain ⟨ws, r2, q2⟩ := rd2 Z G ι h H u1 u2 u3 c2
        exact ⟨us, ws, r1, r2, q1, q2⟩
      refine ⟨fun Z G ι h H i u1 u2 u3 u4 u5 => ?_, fun Z G ι h H i u1 u2 u3 u4 u5 => ?_, fun Z G ι h H i v H' x u1 u2 u3 u4 u5 u6 => ?_⟩
      · obtain ⟨us, ws, r1, r2, q1, q2⟩ := len u1 u2 u3 u4
        have hi : (s.2.zip t.2).length = i := by simpa using u5
        rw [List.length_zip] at hi
        have e1 := r1.length
        have e2 := r2.length
        exact ⟨us, ws, q1, q2, by omega, by omega, by omega⟩
      · obtain ⟨us, ws, r1, r2, q1, q2⟩ := len u1 u2 u3 u4
        have hi : i < (s.2.zip t.2).length := by simpa using u5
        rw [List.length_zip] at hi
        have h1 : i < us.length := by rw [← r1.length]; omega
        have h2 : i < ws.length := by rw [← r2.length]; omega
        exact ⟨us, ws, us[i], ws[i], q1, q2, List.getElem?_eq_getElem h1, List.getElem?_eq_getElem h2⟩
      · obtain ⟨us, ws, r1, r2, q1, q2⟩ := len u1 u2 u3 u4
        obtain ⟨T, vx, vy, o, rfl, hT, ho, rfl, f1, f2⟩ := u6
        rw [List.getElem?_map] at u5
        cases ez : (s.2.zip t.2)[i]? with
        | none => rw [ez] at u5; cases u5
        | some pr =>
          rw [ez] at u5
          cases u5
          obtain ⟨g1, g2⟩ := zip_get ez
          obtain ⟨w1, k1', m1⟩ := r1.get g1
          obtain ⟨w2, k2', m2⟩ := r2.get g2
          have e1' := f1 us q1
          rw [k1'] at e1'; cases e1'
          have e2' := f2 ws q2
          rw [k2'] at e2'; cases e2'
          have gp := u3.gnone hT
          refine ⟨upd G T (.frz o (.tup [vx, vy])), ι, ⟨same_upd gp, Pre.refl _, u3.laid hT, fun z hz => upd_ne fun e => u3.freshZ hT (e ▸ hz)⟩, ?_⟩
          exact .tup (.inl ⟨o, upd_same, ho⟩) (.cons (m1.mono (same_upd gp) (Pre.refl _)) (.cons (m2.mono (same_upd gp) (Pre.refl _)) .nil))
    · exact p2.elim
  · exact p2.elim
theorem rngC_jok {K : Wr} {G0 : Hp} {ι0 : List Addr} {lo c : Int} {n : Nat} : Jok K G0 ι0 ([], (List.range n).map fun (t : Nat) => PV.int (lo + (t : Int) * c)) (Itc lo c n) :=
  jok_of fun Z G ι h H _ _ _ _ => by
    have e : ∀ l : List Nat, RVs K G ι (l.map fun (t : Nat) => PV.int (lo + (t : Int) * c)) (l.map fun (t : Nat) => V.int (lo + (t : Int) * c)) := fun l => by
      induction l with
      | nil => exact .nil
      | cons _ l ih => exact .cons (.int _) ih
    refine ⟨(List.range n).map fun (t : Nat) => V.int (lo + (t : Int) * c), e _, fun i hi => ?_, fun i hi => ?_, fun i v H' y hi => ?_⟩
    · simpa [Itc] using hi
    · simpa [Itc] using hi
    · obtain ⟨e1, e2⟩ := y
      refine ⟨e1, ?_⟩
      subst e2
      have hi' : i < n := by simpa using hi
      rw [List.getElem?_map, List.getElem?_range hi']
      rfl
theorem mi_range3 {a b c : Expr} {z : Str} {p pos : Pos} {ra rb rc : Env' → MH → Res PV} (hzn : z = ("range" : Str)) (hg : Gl X z) (hm : X.mg z = none) (ha : PE X a (tE exc (kx X) W ra)) (hb : PE X b (tE exc (kx X) W rb)) (hc : PE X c (tE exc (kx X) W rc))
    (hs : starEach [a, b, c] X.env = [(false, eval a X.env), (false, eval b X.env), (false, eval c X.env)]) (hs2 : starEach [b, c] X.env = [(false, eval b X.env), (false, eval c X.env)]) (hs3 : starEach [c] X.env = [(false, eval c X.env)]) :
    PI X tg (.Call (.Name z p) [a, b, c] [] pos) (tI exc (kx X) W fun ρ h => (ra ρ h).bind fun x h => (rb ρ h).bind fun y h => (rc ρ h).bind fun z h => match x, y, z with
    | .int i, .int j, .int k => if k ≠ 0 ∧ k.natAbs < 1073741824 ∧ Builtin.Range.small i j k = true then .ok ([], (List.range (Builtin.Range.rangeSize i j k).toNat).map fun (t : Nat) => PV.int (i + (t : Int) * k)) h else .stuck
    | _, _, _ => .stuck) := by
  subst hzn
  refine (pi_range3 hg hm (pa_cons ha (pa_cons hb (pa_cons hc pa_nil (by rw [hs3]; rfl)) (by rw [hs2, hs3])) (by rw [hs, hs2])) (by rw [hs, hs2]) (by rw [hs2]; rfl)).weak fun σ H Q q => ?_
  obtain ⟨Z, G, ι, h, ρ, R, S, p⟩ := q
  refine ⟨Z, G, ι, h, ρ, R, S, p.bind fun x h1 G1 ι1 H1 vx n1 rx p1 => ?_⟩
  refine ⟨Z, G1, ι1, h1, ρ, n1.hr, S.mono n1.same n1.pre, p1.bind fun y h2 G2 ι2 H2 vy n2 ry p2 => ?_⟩
  refine ⟨Z, G2, ι2, h2, ρ, n2.hr, S.mono (n1.same.trans n2.same) (n1.pre.trans n2.pre), p2.bind fun z h3 G3 ι3 H3 vz n3 rz p3 => ?_⟩
  split at p3
  · rename_i i j k
    split at p3
    · rename_i hk
      refine ⟨i, j, k, (Builtin.Range.rangeSize i j k).toNat, by rw [rx.int_inv, ry.int_inv, rz.int_inv], ⟨hk.1, hk.2.1, hk.2.2, ?_⟩, RP.ok_here p3 n3.hr rngC_jok⟩
      have : 0 ≤ Builtin.Range.rangeSize i j k := by
        have k0 := hk.1
        unfold Builtin.Range.rangeSize
        split
        · split
          · have := Int.ediv_nonneg (a := j - i - 1) (b := k) (by omega) (by omega)
            omega
          · exact Int.le_refl _
        · split
          · have := Int.ediv_nonneg (a := i - j - 1) (b := -k) (by omega) (by omega)
            omega
          · exact Int.le_refl _
      omega
    · exact p3.elim
  · exact p3.elim
end
end Mx

end

section
set_option Elab.async false
set_option Elab.async false
set_option linter.all false
set_option maxRecDepth 100000
set_option maxHeartbeats 4000000
/-! enumerate of a list or a tuple -/
namespace Mx
open PySem PySem.Spec PyProof.Rows L2
theorem meets_enum1 {v : Value} {ob : Obj} {HH : Heap → Prop} (B : Begins v ob HH) :
    Meets (Builtin.«enumerate.__new__» ⟨[.type "enumerate", v], []⟩) (fun _ R s => HH s.heap ∧
      R (.ok (.ret (.ref (s.heap.push ob).objs.size))) { s with heap := (s.heap.push ob).push { cls := .type "enumerate", data := .fields #[.none, .bool false, .ref s.heap.objs.size, rawInt 0, .none, .none] } }) :=
  .of_wp fun P w A R s both => by
    obtain ⟨hp, gn, dr, tk, os⟩ := s; obtain ⟨here, told⟩ := both
    have sub0 := sub_enumerate
    have it0 : ∀ {A' : Around} {E : Value → Shared → Prop} {Q : Value → Shared → Prop}, Q (.ref hp.objs.size) ⟨hp.push ob, gn, dr, tk, os⟩ → wpAny (model P w) A' (pyIter v) Q E ⟨hp, gn, dr, tk, os⟩ := fun q => B.iter P w _ _ ⟨hp, gn, dr, tk, os⟩ _ here q
    wp_walk using it0
    refine wpAny_stack_any fun stk => wpAny_pure ?_
    split
    · rename_i cc _ _ _ _ _
      cases (cc == Value.type "enumerate")
      · wp_walk using it0
        exact ⟨_, rfl, told⟩
      · wp_walk using it0
        exact ⟨_, rfl, told⟩
    · wp_walk using it0
      exact ⟨_, rfl, told⟩
section
variable {prog : Program} {w : World} {A : Around} {E : Value → Shared → Prop} {s : Shared}
theorem enum_new {v : Value} {ob : Obj} {HH : Heap → Prop} {Q : Value → Shared → Prop} (B : Begins v ob HH) (here : HH s.heap)
    (told : ∀ h2, IsEnum h2 (s.heap.objs.size + 1) s.heap.objs.size 0 .none → h2.get? s.heap.objs.size = some ob → (∀ b o, s.heap.get? b = some o → h2.get? b = some o) → Q (.ref (s.heap.objs.size + 1)) { s with heap := h2 }) :
    wpAny (model prog w) A (PySem.call (.type "enumerate") [v]) Q E s := by
  refine callType_new F.called_enumerate (by decide) (F.typeCall_enumerate_1 _) (F.newCall_enumerate_1 _) (fun o2 => F.args_object_init_2 o2 _) F.entry_enumerate_new (meets_enum1 B) ⟨here, ?_⟩
  have sz : (s.heap.push ob).objs.size = s.heap.objs.size + 1 := Heap.size_push ..
  show _ ∧ _
  rw [sz]
  have isE : IsEnum ((s.heap.push ob).push { cls := .type "enumerate", data := .fields #[.none, .bool false, .ref s.heap.objs.size, rawInt 0, .none, .none] }) (s.heap.objs.size + 1) s.heap.objs.size 0 .none := by
    have z := Heap.get?_push_size (s.heap.push ob) (o := { cls := .type "enumerate", data := .fields #[.none, .bool false, .ref s.heap.objs.size, rawInt 0, .none, .none] }) rfl
    rw [sz] at z; exact z
  exact ⟨⟨_, isE, rfl⟩, told _ isE (Heap.get?_push_of_some _ (Heap.get?_push_size _ B.free)) fun b o x => Heap.get?_push_of_some _ (Heap.get?_push_of_some _ x)⟩
end
/-- the turns of an enumerate -/
def ItE (K : PySem.W.Frag) (k : Bool) (a : Addr) : It :=
  ⟨fun i H => ∃ (xs : List V) (x : V), rdK k K H a xs ∧ xs[i]? = some x,
    fun i H v H' => ∃ T x o, v = .ref T ∧ H T = none ∧ o.dict = none ∧ H' = upd H T (.frz o (.tup [.int (i : Nat), x])) ∧ ∀ xs, rdK k K H a xs → xs[i]? = some x,
    fun i H => ∃ xs : List V, rdK k K H a xs ∧ xs.length = i⟩
theorem turn_enumK {P : Program} {w : World} {K : PySem.W.Frag} {elts : List Expr} {kk : Nat} {tpos : Pos} {k : Bool} {a en it : Addr} (ne : en ≠ it) (na : a ≠ it) (nae : a ≠ en) :
    Turn P w K (.Tuple elts kk tpos) (ItE K k a) [en, it] en (fun i h => (∃ old, IsEnum h en it ((i : Nat) : Int) old) ∧ itK k h it a i) where
  mem := by simp
  obj := fun i h st c hc => by
    obtain ⟨⟨old, he⟩, h1⟩ := st
    have z : c = en ∨ c = it := by simpa using hc
    rcases z with rfl | rfl
    · exact ⟨_, he, fun v q => nomatch q⟩
    · exact itK_obj h1
  keep := fun i h h' st f => by
    obtain ⟨⟨old, he⟩, h1⟩ := st
    exact ⟨⟨old, f en (by simp) _ he⟩, itK_at h1 fun o q => f it (by simp) o q⟩
  item := by
    intro X hP hw hK hc i pins s σ H E I hf st hg
    subst hP hw hK
    obtain ⟨⟨old, he⟩, h1⟩ := st
    obtain ⟨xs, x, hqx, hx⟩ := hg
    obtain ⟨its, rv, p1, _⟩ := rdK_its I hqx
    obtain ⟨u, hu, ru⟩ := rv.get hx
    have el : en < s.heap.objs.size := Heap.lt_size he
    have il : it < s.heap.objs.size := by
      obtain ⟨_, e1, _⟩ := itK_obj h1
      exact Heap.lt_size e1
    have D1 : Draws X.prog X.w X.A.in1 it [it, a] its.toArray.size (fun i v => its.toArray[i]? = some v) (fun i h => itK k h it a i ∧ sqK k h a its.toArray) := drawK (A := X.A.in1) (I.ok.hd hc) k it a na its.toArray
    have lu : i < its.toArray.size := by simpa using (List.getElem?_eq_some_iff.mp hu).1
    refine wpAny_pyNext_enum_itemD D1 he ⟨h1, p1⟩ lu ne (by simp [ne, Ne.symm nae]) fun v1 h' tk e1 ho st1 hT hsz hk => ?_
    obtain rfl : u = v1 := by
      have : its[i]? = some v1 := by simpa using e1
      rw [hu] at this; exact Option.some.inj this
    refine ⟨_, rfl, wpAny_letOwnedTupleGo_enum (s := { s with heap := h', toks := tk + 1 }) ho fun h'' he' sb => ?_⟩
    have hT2 : h''.get? s.heap.objs.size = some { cls := .type "tuple", data := .seq #[.int (i : Int) tk, u] } := (sb.2 _ (Nat.ne_of_gt el)).trans hT
    have new : ObjOk X.prog X.w (upd H s.heap.objs.size (.frz { cls := .type "tuple", data := .seq #[.int (i : Int) tk, u] } (.tup [.int (i : Nat), x]))) h'' s.heap.objs.size (.frz { cls := .type "tuple", data := .seq #[.int (i : Int) tk, u] } (.tup [.int (i : Nat), x])) :=
      ⟨hT2, by show 2 ≤ sizeLine; decide, [.int (i : Int) tk, u], .cons ⟨_, rfl⟩ (.cons ru .nil), ⟨_, hT2, rfl, _, rfl⟩⟩
    have kp : ∀ c o, c ∉ [en, it] → s.heap.get? c = some o → h''.get? c = some o := fun c o hb q => (sb.2 c (fun z => hb (by simp [z]))).trans (hk c o (fun z => hb (by simp [z])) (fun z => hb (by simp [z])) q)
    have I1 : Inv X pins σ (upd H s.heap.objs.size (.frz { cls := .type "tuple", data := .seq #[.int (i : Int) tk, u] } (.tup [.int (i : Nat), x]))) { s with heap := h'', toks := tk + 1 } :=
      I.turnedNew (t' := tk + 1) (ch := [en, it]) kp hf (Nat.le_refl _) new
    refine ⟨.ref s.heap.objs.size, _, I1, rfl, ⟨_, x, _, rfl, I.hok.fresh (Nat.le_refl _), rfl, rfl, fun l hl => by rw [rdK_inj I hl hqx]; exact hx⟩, ⟨⟨u, ?_⟩, itK_at st1.1 fun o q => (sb.2 _ (Ne.symm ne)).trans q⟩, fun c hcm => ?_⟩
    · have e2 : ((i + 1 : Nat) : Int) = (i : Int) + 1 := by omega
      rw [e2]; exact he'
    · have z : c = en ∨ c = it := by simpa using hcm
      have lt : c < s.heap.objs.size := by
        rcases z with rfl | rfl
        · exact el
        · exact il
      rw [upd_ne (Nat.ne_of_lt lt)]
      exact (hf c hcm).1
  done := by
    intro X hP hw hK hc i pins s σ H E I hf st hg
    subst hP hw hK
    obtain ⟨⟨old, he⟩, h1⟩ := st
    obtain ⟨xs, hqx, hend⟩ := hg
    obtain ⟨its, rv, p1, _⟩ := rdK_its I hqx
    have l1 := rv.length
    have D1 : Draws X.prog X.w X.A.in1 it [it, a] its.toArray.size (fun i v => its.toArray[i]? = some v) (fun i h => itK k h it a i ∧ sqK k h a its.toArray) := drawK (A := X.A.in1) (I.ok.hd hc) k it a na its.toArray
    have en1 : i = its.toArray.size := by simp only [List.size_toArray]; omega
    refine wpAny_pyNext_enum_endD D1 he ⟨by rw [← en1]; exact h1, p1⟩ fun h' eb => ⟨rfl, ?_⟩
    exact I.turnedL (t' := s.toks) (ch := [en, it]) (fun c o hb q => eb c o (fun z => hb (by simp [z])) q) hf
  self := fun A i s Q E st h => let ⟨⟨_, he⟩, _⟩ := st; wpAny_pyIter_enum he h
def iEnumK (K : PySem.W.Frag) (ta : TA) : TI := fun σ H R => ta σ H fun vs H1 => ∃ k a xs, vs = [.ref a] ∧ rdK k K H1 a xs ∧ R (ItE K k a) H1
theorem pi_enumK {X : Cx} {e : Expr} {ta : TA} {p pos tpos : Pos} {elts : List Expr} {kk : Nat} (hg : Gl X "enumerate") (hm : X.mg "enumerate" = none) (ha : PA X [e] ta) (hs : starEach [e] X.env = [(false, eval e X.env)]) :
    PI X (.Tuple elts kk tpos) (.Call (.Name "enumerate" p) [e] [] pos) (iEnumK X.K ta) := by
  refine ⟨fun pins s σ H R I h => Call_ (ld_blt I hg hm boot_enumerate (PyProof.Rows.callWith_type1 (thn (ha.run pos pins s σ H _ I h) fun us s1 ⟨vs, H1, I1, r1, q1⟩ => ?_) hs rfl))⟩
  obtain ⟨k, a, xs, rfl, hq, q⟩ := q1
  cases r1 with
  | cons rr tt =>
    cases tt
    cases rr
    obtain ⟨its, rv, p', hlt⟩ := rdK_its I1 hq
    refine enum_new (begK k a its.toArray) p' fun h2 he hit kp => wpAny_pyIter_enum he ?_
    have I2 : Inv X pins σ H1 { s1 with heap := h2 } := I1.kept (t' := s1.toks) kp
    refine ⟨s1.heap.objs.size + 1, [s1.heap.objs.size + 1, s1.heap.objs.size], _, _, H1, rfl, I2, turn_enumK (a := a) (en := s1.heap.objs.size + 1) (it := s1.heap.objs.size) (Nat.succ_ne_self _) (Nat.ne_of_lt hlt) (Nat.ne_of_lt (Nat.lt_succ_of_lt hlt)), ⟨⟨.none, he⟩, itK_0 hit⟩, fun b hb => ?_, q⟩
    have z : b = s1.heap.objs.size + 1 ∨ b = s1.heap.objs.size := by simpa using hb
    have le : s1.heap.objs.size ≤ b := by
      rcases z with y | y
      · rw [y]; exact Nat.le_succ _
      · rw [y]; exact Nat.le_refl _
    exact I1.fpOk le (I1.hok.fresh le)
section
variable {X : Cx} {exc : List Str} {W : WX}
theorem mi_enum {a : Expr} {z : Str} {p pos tpos : Pos} {elts : List Expr} {kk : Nat} {ra : Env' → MH → Res PV} (hzn : z = ("enumerate" : Str)) (hg : Gl X z) (hm : X.mg z = none) (ha : PE X a (tE exc (kx X) W ra)) (hs : starEach [a] X.env = [(false, eval a X.env)]) :
    PI X (.Tuple elts kk tpos) (.Call (.Name z p) [a] [] pos) (tI exc (kx X) W fun ρ h => (ra ρ h).bind fun x h => match src x h with
    | some s => if isStr x = false then .ok (s.1, s.2.zipIdx.map fun p => .tup [.int p.2, p.1]) h else .stuck
    | none => .stuck) := by
  subst hzn
  refine (pi_enumK hg hm (pa_cons ha pa_nil (by rw [hs]; rfl)) hs).weak fun σ H Q q => ?_
  obtain ⟨Z, G, ι, h, ρ, R, S, p⟩ := q
  refine ⟨Z, G, ι, h, ρ, R, S, p.bind fun x h1 G1 ι1 H1 vx n1 rx p1 => ?_⟩
  split at p1
  · rename_i s e1
    split at p1
    · rename_i hn
      obtain ⟨k1, a1, vs, rfl, hd1, rd1⟩ := src_rd n1.hr rx e1 hn
      refine ⟨k1, a1, vs, rfl, hd1, RP.ok_here p1 n1.hr ?_⟩
      refine ⟨fun Z G ι h H i u1 u2 u3 u4 u5 => ?_, fun Z G ι h H i u1 u2 u3 u4 u5 => ?_, fun Z G ι h H i v H' x u1 u2 u3 u4 u5 u6 => ?_⟩
      · obtain ⟨us, r1, q1⟩ := rd1 Z G ι h H u1 u2 u3 u4
        have hi : s.2.length = i := by simpa using u5
        exact ⟨us, q1, by rw [← r1.length]; exact hi⟩
      · obtain ⟨us, r1, q1⟩ := rd1 Z G ι h H u1 u2 u3 u4
        have hi : i < s.2.length := by simpa using u5
        have hu : i < us.length := by rw [← r1.length]; exact hi
        exact ⟨us, us[i], q1, List.getElem?_eq_getElem hu⟩
      · obtain ⟨us, r1, q1⟩ := rd1 Z G ι h H u1 u2 u3 u4
        obtain ⟨T, vx, o, rfl, hT, ho, rfl, f1⟩ := u6
        rw [List.getElem?_map, List.getElem?_zipIdx] at u5
        cases ez : s.2[i]? with
        | none => rw [ez] at u5; cases u5
        | some y =>
          rw [ez] at u5
          simp only [Option.map_some, Nat.zero_add, Option.some.injEq] at u5
          subst u5
          obtain ⟨w1, k1', m1⟩ := r1.get ez
          have e1' := f1 us q1
          rw [k1'] at e1'; cases e1'
          have gp := u3.gnone hT
          refine ⟨upd G T (.frz o (.tup [.int (i : Nat), vx])), ι, ⟨same_upd gp, Pre.refl _, u3.laid hT, fun z hz => upd_ne fun e => u3.freshZ hT (e ▸ hz)⟩, ?_⟩
          exact .tup (.inl ⟨o, upd_same, ho⟩) (.cons (.int _) (.cons (m1.mono (same_upd gp) (Pre.refl _)) .nil))
    · exact p1.elim
  · exact p1.elim
end
end Mx

end

section
set_option Elab.async false
set_option Elab.async false
set_option linter.all false
set_option maxRecDepth 100000
set_option maxHeartbeats 4000000
/-! Comprehensions. -/
namespace Mx
open PySem PySem.Spec PyProof.Rows L2
section
variable {K : Wr} {Z : List Addr} {G : Hp} {ι : List Addr} {h : MH} {H : Hp}
theorem HR.zless {D : Addr} (R : HR K (D :: Z) G ι h H) : HR K Z G ι h H := ⟨R.sub, R.len, R.nd, R.out, R.obj, fun z hz => R.zz z (List.mem_cons_of_mem _ hz)⟩
/-- a thing that is being made -/
theorem HR.make {D : Addr} {o : HO} (R : HR K Z G ι h H) (hD : H D = none) : HR K (D :: Z) G ι h (upd H D o) := by
  have gp := R.gnone hD
  have np := R.fresh hD
  refine ⟨fun b u q => ?_, R.len, R.nd, R.out, fun n a ob e1 e2 => ?_, fun z hz => ?_⟩
  · rw [upd_ne (ne_of_none q gp)]; exact R.sub b u q
  · have : a ≠ D := fun e => np (e ▸ List.mem_of_getElem? e1)
    rw [upd_ne this]; exact R.obj n a ob e1 e2
  · rcases List.mem_cons.mp hz with rfl | hz
    · exact ⟨gp, np, o, upd_same⟩
    · obtain ⟨z1, z2, u, z3⟩ := R.zz z hz
      have : z ≠ D := fun e => R.freshZ hD (e ▸ hz)
      rw [upd_ne this]
      exact ⟨z1, z2, u, z3⟩
theorem HR.zput {D : Addr} {o : HO} (R : HR K (D :: Z) G ι h H) : HR K (D :: Z) G ι h (upd H D o) := by
  obtain ⟨gp, np, _⟩ := R.zz D List.mem_cons_self
  refine ⟨fun b u q => ?_, R.len, R.nd, R.out, fun n a ob e1 e2 => ?_, fun z hz => ?_⟩
  · rw [upd_ne (ne_of_none q gp)]; exact R.sub b u q
  · have : a ≠ D := fun e => np (e ▸ List.mem_of_getElem? e1)
    rw [upd_ne this]; exact R.obj n a ob e1 e2
  · obtain ⟨z1, z2, u, z3⟩ := R.zz z hz
    by_cases hzD : z = D
    · subst hzD; exact ⟨z1, z2, o, upd_same⟩
    · rw [upd_ne hzD]; exact ⟨z1, z2, u, z3⟩
/-- it is made, it changes no more -/
theorem HR.doneF {D : Addr} {o : HO} (R : HR K (D :: Z) G ι h H) (e : H D = some o) (hz : D ∉ Z) : HR K Z (upd G D o) ι h H := by
  obtain ⟨gp, np, _⟩ := R.zz D List.mem_cons_self
  refine ⟨fun b u q => ?_, R.len, R.nd, fun a ha => ?_, fun n a ob e1 e2 => (R.obj n a ob e1 e2).mono (same_upd gp) (Pre.refl _), fun z hzz => ?_⟩
  · by_cases hb : b = D
    · subst hb; rw [upd_same] at q; cases q; exact e
    · rw [upd_ne hb] at q; exact R.sub b u q
  · have : a ≠ D := fun e => np (e ▸ ha)
    rw [upd_ne this]; exact R.out a ha
  · have : z ≠ D := fun e => hz (e ▸ hzz)
    rw [upd_ne this]; exact R.zz z (List.mem_cons_of_mem _ hzz)
/-- it is made, it goes on changing -/
theorem HR.doneR {D : Addr} {m : MO} (R : HR K (D :: Z) G ι h H) (ro : RO K G (ι ++ [D]) m (H D)) (hz : D ∉ Z) : HR K Z G (ι ++ [D]) (h ++ [m]) H := by
  obtain ⟨gp, np, _⟩ := R.zz D List.mem_cons_self
  refine ⟨R.sub, by simp [R.len], ?_, fun a ha => ?_, fun n a ob e1 e2 => ?_, fun z hzz => ?_⟩
  · rw [List.nodup_append]
    refine ⟨R.nd, by simp, fun a ha b hb => ?_⟩
    have : b = D := by simpa using hb
    subst this
    exact fun e => np (e ▸ ha)
  · rcases List.mem_append.mp ha with ha | ha
    · exact R.out a ha
    · have : a = D := by simpa using ha
      subst this
      intro u q
      rw [gp] at q; cases q
  · by_cases hn : n < ι.length
    · rw [List.getElem?_append_left hn] at e1
      rw [List.getElem?_append_left (by rw [← R.len]; exact hn)] at e2
      exact (R.obj n a ob e1 e2).mono (Up.refl _) (Pre.append _ _)
    · have hn' : n = ι.length := by
        have := (List.getElem?_eq_some_iff.mp e1).1
        rw [List.length_append, List.length_singleton] at this
        omega
      subst hn'
      have e1' : D = a := by simpa using e1
      have e2' : m = ob := by
        rw [R.len] at e2
        simpa using e2
      subst e1' e2'
      exact ro
  · obtain ⟨z1, z2, u, z3⟩ := R.zz z (List.mem_cons_of_mem _ hzz)
    refine ⟨z1, fun q => ?_, u, z3⟩
    rcases List.mem_append.mp q with q | q
    · exact z2 q
    · have : z = D := by simpa using q
      exact hz (this ▸ hzz)
theorem Nx.zless {D : Addr} {G1 : Hp} {ι1 : List Addr} {h1 : MH} {H1 : Hp} (n : Nx K (D :: Z) G ι H G1 ι1 h1 H1) : Nx K Z G ι H G1 ι1 h1 H1 := ⟨n.same, n.pre, n.hr.zless, fun z hz => n.zz z (List.mem_cons_of_mem _ hz)⟩
end
section
variable {K : Wr} {Z : List Addr} {G G1 : Hp} {ι ι1 : List Addr} {h h1 : MH} {H H1 : Hp} {α β γ δ μ : Type} {exc : List Str}
variable {R : Hp → List Addr → α → β → Prop} {R' : Hp → List Addr → γ → δ → Prop} {E E' : XK}
/-- a step within what may raise nothing, while D is made -/
theorem RP.bindN {D : Addr} {A : Res α} {B : α → MH → Res μ} {f : μ → MH → Res γ} {Q : δ → Hp → Prop} {Q1 : β → Hp → Prop} (p : RP exc K R' Z G ι H ((Res.nox (A.bind B)).bind f) Q E)
    (k : ∀ a h1 G1 ι1 H1 b, Nx K (D :: Z) G ι H G1 ι1 h1 H1 → R G1 ι1 a b → RP exc K R' Z G1 ι1 H1 ((Res.nox (B a h1)).bind f) Q E → Q1 b H1) : RP exc K R (D :: Z) G ι H A Q1 E' := by
  cases A with
  | ok a h' => exact fun G' ι' H' b n q => k a h' G' ι' H' b n q (RP.later p n.zless)
  | exn c v h' => exact p.elim
  | stuck => exact p.elim
end
theorem compL_len {body : PV → MH → Res (Option PV)} {l : List (Nat × List PV)} : ∀ {xs acc : List PV} {h : MH} {ys : List PV} {h' : MH}, compL body l xs acc h = .ok ys h' → acc.length ≤ ys.length
  | [], acc, h, ys, h', e => by
    unfold compL at e
    split at e
    · cases e; exact Nat.le_refl _
    · cases e
  | x :: xs, acc, h, ys, h', e => by
    unfold compL at e
    split at e
    · cases q : body x h with
      | stuck => rw [q] at e; cases e
      | exn c v h => rw [q] at e; cases e
      | ok o h1 =>
        rw [q] at e
        have := compL_len (show compL body l xs _ h1 = _ from e)
        cases o with
        | none => exact this
        | some y => rw [List.length_append, List.length_singleton] at this; omega
    · cases e
theorem compL_nox {f : PV → MH → Res (Option PV)} {l : List (Nat × List PV)} : ∀ {xs acc : List PV} {h : MH} {c v h'}, compL (fun x h => (f x h).nox) l xs acc h ≠ .exn c v h'
  | [], acc, h, c, v, h', e => by
    unfold compL at e
    split at e <;> cases e
  | x :: xs, acc, h, c, v, h', e => by
    unfold compL at e
    split at e
    · cases q : f x h with
      | stuck => rw [q] at e; cases e
      | exn c v h => rw [q] at e; cases e
      | ok o h1 =>
        rw [q] at e
        exact compL_nox (show compL (fun x h => (f x h).nox) l xs _ h1 = _ from e)
    · cases e

section
variable {X : Cx} {exc : List Str} {W : WX}
abbrev W0 : WX := fun _ _ _ _ => False
/-- one comprehension's run -/
noncomputable def compR (r : Bool) (ri : Env' → MH → Res Src) (g : Ag) (vs : List Nat) (rt : Env' → MH → Res Bool) (re : Env' → MH → Res PV) : Env' → MH → Res PV := fun ρ h => (ri ρ h).bind fun s h => (compL (fun x h => Res.nox (match bindG g x (wipeP ρ vs) h with
      | some ρ' => (rt ρ' h).bind fun b h => if b = true then (re ρ' h).bind fun y h => .ok (some y) h else .ok none h
      | none => .stuck)) s.1 s.2 [] h).bind fun xs h => if xs.length ≤ sizeLine then mkLst r xs h else .stuck
theorem comp_fin {K : Wr} {Z : List Addr} {G : Hp} {ι : List Addr} {h : MH} {H : Hp} {D : Addr} {acc : List PV} {vacc : List V} {r : Bool} {Q : VK} {E : XK} (R : HR K (D :: Z) G ι h H) (hz : D ∉ Z) (e : H D = some (.lst vacc)) (ra : RVs K G ι acc vacc) (p : RP exc K (rV K) Z G ι H (mkLst r acc h) Q E) : Q (.ref D) H := by
  obtain ⟨gp, np, _⟩ := R.zz D List.mem_cons_self
  unfold mkLst at p
  split at p
  · have R2 := R.doneR (m := .lst acc) (by rw [e]; exact .lst (ra.mono (Up.refl _) (Pre.append _ _))) hz
    refine p G (ι ++ [D]) H (.ref D) ⟨Up.refl _, Pre.append _ _, R2, fun _ _ => rfl⟩ (.ref ?_)
    rw [← R.len]; simp
  · have R2 := R.doneF e hz
    refine p (upd G D (.lst vacc)) ι H (.ref D) ⟨same_upd gp, Pre.refl _, R2, fun _ _ => rfl⟩ (.lst (.inl upd_same) (ra.mono (same_upd gp) (Pre.refl _)))
theorem tLc_weak {K : Wr} {r : Bool} {ri : Env' → MH → Res Src} {g : Ag} {vs : List Nat} {rt : Env' → MH → Res Bool} {re : Env' → MH → Res PV} (hsl : ∀ i ∈ g.slots, i ∈ vs) {σ : L2.St} {H : Hp} {Q : VK}
    (q : tE exc K W (compR r ri g vs rt re) σ H Q) : tLc (tI exc K W ri) (tG K g) (tT exc K W0 rt) (tE exc K W0 re) vs σ H Q := by
  obtain ⟨Z, G, ι, h, ρ, R, S, p⟩ := q
  unfold compR at p
  refine ⟨Z, G, ι, h, ρ, R, S, p.bind fun s h1 G1 ι1 H1 J n1 hJ p1 => ?_⟩
  intro D hD
  have hzD : D ∉ Z := n1.hr.freshZ hD
  generalize hbody : (fun (x : PV) (h : MH) => Res.nox (match bindG g x (wipeP ρ vs) h with
      | some ρ' => (rt ρ' h).bind fun b h => if b = true then (re ρ' h).bind fun y h => Res.ok (some y) h else .ok none h
      | none => .stuck)) = body at p1
  refine ⟨fun i m H' => m = s.2.length - i ∧ i ≤ s.2.length ∧ ∃ G2 ι2 h2 acc vacc, Up G1 G2 ∧ Pre ι1 ι2 ∧ HR K (D :: Z) G2 ι2 h2 H' ∧ (∀ z ∈ Z, H' z = H1 z) ∧ H' D = some (.lst vacc) ∧ RVs K G2 ι2 acc vacc ∧
    RP exc K (rV K) Z G2 ι2 H' ((compL body s.1 (s.2.drop i) acc h2).bind fun xs h => if xs.length ≤ sizeLine then mkLst r xs h else .stuck) Q (fun cls d H' => W cls d σ H'), ⟨_, rfl, Nat.zero_le _, G1, ι1, h1, [], [], Up.refl _, Pre.refl _, n1.hr.make hD, fun z hz => upd_ne fun e => hzD (e ▸ hz), upd_same, .nil, ?_⟩, ?_⟩
  · refine RP.later p1 (h1 := h1) ⟨Up.refl _, Pre.refl _, (n1.hr.make hD).zless, fun z hz => upd_ne fun e => hzD (e ▸ hz)⟩
  · rintro i m H2 ⟨rfl, hi, G2, ι2, h2, acc, vacc, s2, pr2, R2, z2, eD, ra, p2⟩
    by_cases hlt : i < s.2.length
    · have ex : s.2[i]? = some s.2[i] := List.getElem?_eq_getElem hlt
      rw [List.drop_eq_getElem_cons hlt] at p2
      unfold compL at p2
      split at p2
      · rename_i hchk
        refine .inr ⟨hJ.go (D :: Z) G2 ι2 h2 H2 i s2 pr2 R2 hchk hlt, fun H' => ∃ m' < s.2.length - i, m' = s.2.length - (i + 1) ∧ ∃ G2 ι2 h2 acc vacc, Up G1 G2 ∧ Pre ι1 ι2 ∧ HR K (D :: Z) G2 ι2 h2 H' ∧ (∀ z ∈ Z, H' z = H1 z) ∧ H' D = some (.lst vacc) ∧ RVs K G2 ι2 acc vacc ∧
          RP exc K (rV K) Z G2 ι2 H' ((compL body s.1 (s.2.drop (i + 1)) acc h2).bind fun xs h => if xs.length ≤ sizeLine then mkLst r xs h else .stuck) Q (fun cls d H' => W cls d σ H'), ?_, ?_⟩
        · rintro H' ⟨m', hm, e, w⟩
          exact ⟨m', hm, e, hlt, w⟩
        · intro xv H3 hy
          obtain ⟨G3, ι3, n3, rx⟩ := hJ.yld (D :: Z) G2 ι2 h2 H2 i xv H3 _ s2 pr2 R2 hchk ex hy
          have p3 := RP.later p2 n3.zless
          rw [Res.assoc, ← hbody] at p3
          dsimp only at p3
          have S3 : SR K G3 ι3 (wipeP ρ vs) (L2.wipe σ vs) := (S.mono (n1.same.trans (s2.trans n3.same)) (n1.pre.trans (pr2.trans n3.pre))).wipe vs
          cases hb : bindG g s.2[i] (wipeP ρ vs) h2 with
          | none => rw [hb] at p3; exact p3.elim
          | some ρ' =>
            rw [hb] at p3
            dsimp only at p3
            refine ⟨D :: Z, G3, ι3, h2, wipeP ρ vs, s.2[i], ρ', n3.hr, S3, rx, hb, fun σ2 S2 l2 k2 => ⟨?_, ?_⟩⟩
            · have : L2.wipe σ2 vs = L2.wipe (L2.wipe σ vs) vs := wipe_same l2 fun j hj => k2 j fun q => hj (hsl j q)
              rw [this, wipe_wipe]
            · refine ⟨D :: Z, G3, ι3, h2, ρ', n3.hr, S2, p3.bindN fun b h4 G4 ι4 H4 b' n4 eb p4 => ?_⟩
              cases eb
              have e4 : H4 D = some (.lst vacc) := ((n4.zz D List.mem_cons_self).trans (n3.zz D List.mem_cons_self)).trans eD
              have z4 : ∀ z ∈ Z, H4 z = H1 z := fun z hz => ((n4.zz z (List.mem_cons_of_mem _ hz)).trans (n3.zz z (List.mem_cons_of_mem _ hz))).trans (z2 z hz)
              have s4 := s2.trans (n3.same.trans n4.same)
              have pr4 := pr2.trans (n3.pre.trans n4.pre)
              cases b with
              | false =>
                refine ⟨_, by omega, rfl, G4, ι4, h4, acc, vacc, s4, pr4, n4.hr, z4, e4, ra.mono (n3.same.trans n4.same) (n3.pre.trans n4.pre), ?_⟩
                rw [hbody] at p4
                exact p4
              | true =>
                refine ⟨D :: Z, G4, ι4, h4, ρ', n4.hr, S2.mono n4.same n4.pre, p4.bindN fun y h5 G5 ι5 H5 vy n5 ry p5 => ?_⟩
                have e5 : H5 D = some (.lst vacc) := (n5.zz D List.mem_cons_self).trans e4
                have ra5 := ra.mono (n3.same.trans (n4.same.trans n5.same)) (n3.pre.trans (n4.pre.trans n5.pre))
                rw [hbody] at p5
                have p5' : RP exc K (rV K) Z G5 ι5 H5 ((compL body s.1 (s.2.drop (i + 1)) (acc ++ [y]) h5).bind fun xs h => if xs.length ≤ sizeLine then mkLst r xs h else .stuck) Q (fun cls d H' => W cls d σ H') := p5
                refine ⟨vacc, e5, ?_, ?_⟩
                · rw [← ra5.length]
                  cases ec : compL body s.1 (s.2.drop (i + 1)) (acc ++ [y]) h5 with
                  | stuck => rw [ec] at p5'; exact p5'.elim
                  | exn c v h =>
                    rw [← hbody] at ec
                    exact absurd ec compL_nox
                  | ok ys h6 =>
                    rw [ec] at p5'
                    have l6 := compL_len ec
                    rw [List.length_append, List.length_singleton] at l6
                    have p6 : RP exc K (rV K) Z G5 ι5 H5 (if ys.length ≤ sizeLine then mkLst r ys h6 else .stuck) Q (fun cls d H' => W cls d σ H') := p5'
                    split at p6
                    · omega
                    · exact p6.elim
                · refine ⟨_, by omega, rfl, G5, ι5, h5, acc ++ [y], vacc ++ [vy], s4.trans n5.same, pr4.trans n5.pre, n5.hr.zput, fun z hz => ?_, upd_same, ra5.append (.cons ry .nil), ?_⟩
                  · have hne : z ≠ D := fun e => hzD (e ▸ hz)
                    rw [upd_ne hne]
                    exact (n5.zz z (List.mem_cons_of_mem _ hz)).trans (z4 z hz)
                  · exact RP.later p5' (h1 := h5) ⟨Up.refl _, Pre.refl _, n5.hr.zput.zless, fun z hz => upd_ne fun e => hzD (e ▸ hz)⟩
      · exact p2.elim
    · have e : s.2.drop i = [] := List.drop_eq_nil_of_le (by omega)
      rw [e] at p2
      unfold compL at p2
      split at p2
      · rename_i hchk
        have p3 : RP exc K (rV K) Z G2 ι2 H2 (if acc.length ≤ sizeLine then mkLst r acc h2 else .stuck) Q (fun cls d H' => W cls d σ H') := p2
        refine .inl ⟨hJ.stop (D :: Z) G2 ι2 h2 H2 i s2 pr2 R2 hchk (by omega), ?_⟩
        split at p3
        · exact comp_fin R2 hzD eD ra p3
        · exact p3.elim
      · exact p2.elim
theorem me_comp {elt tg iter : Expr} {ifs : List Expr} {scope : Scope} {own : List (Str × Nat)} {pos : Pos} {r : Bool} {ri : Env' → MH → Res Src} {g : Ag} {rt : Env' → MH → Res Bool} {re : Env' → MH → Res PV} (hc : X.calm = true) (hN : X.N.Nodup)
    (hi : PI X tg iter (tI exc (kx X) W ri)) (ok : BlkOk X.N X.env.scope scope own) (hsl : ∀ i ∈ g.slots, i ∈ own.map (·.2))
    (hg : ∀ (s : Shared) (H : Hp) (C : Addr) (cl : List (Str × Addr)) (fp : List Addr), PG (X.blk s H scope (compEnvC scope cl C X.env) fp) tg (tG (kx X) g))
    (ht : ∀ (s : Shared) (H : Hp) (C : Addr) (cl : List (Str × Addr)) (fp : List Addr), PTs (X.blk s H scope (compEnvC scope cl C X.env) fp) ifs (tT exc (kx X) W0 rt))
    (he : ∀ (s : Shared) (H : Hp) (C : Addr) (cl : List (Str × Addr)) (fp : List Addr), PE (X.blk s H scope (compEnvC scope cl C X.env) fp) elt (tE exc (kx X) W0 re)) (hs : ∀ x, foldedSetIterable iter X.env x = pure x) :
    PE X (.ListComp elt [⟨tg, iter, ifs, 0⟩] scope pos) (tE exc (kx X) W (compR r ri g (own.map (·.2)) rt re)) :=
  (pe_lc hc hN hi ok hg ht he hs).weak fun σ H Q q => tLc_weak hsl q
theorem mt_none : PTs X [] (tT exc (kx X) W fun _ h => .ok true h) := ⟨fun pins s σ H Q I q => by
  obtain ⟨Z, G, ι, h, ρ, R, S, p⟩ := q
  exact pts_nil.run pins s σ H Q I (RP.ok_here p R rfl)⟩
theorem mt_some {c : Expr} {r : Env' → MH → Res PV} (hp : PT X c (tT exc (kx X) W (truR r))) : PTs X [c] (tT exc (kx X) W (truR r)) := pts_one hp
end
end Mx

end

section
set_option Elab.async false
set_option Elab.async false
set_option linter.all false
set_option maxRecDepth 100000
set_option maxHeartbeats 4000000
/-! dict comprehensions; comprehensions of two clauses -/
namespace Mx
open PySem PySem.Spec PyProof.Rows L2
section
variable {X : Cx} {exc : List Str} {W : WX}
noncomputable def dcompR (ri : Env' → MH → Res Src) (g : Ag) (vs : List Nat) (rt : Env' → MH → Res Bool) (rk rv : Env' → MH → Res PV) : Env' → MH → Res PV := fun ρ h => (ri ρ h).bind fun s h => (compD (fun x h => Res.nox (match bindG g x (wipeP ρ vs) h with
      | some ρ' => (rt ρ' h).bind fun b h => if b = true then (rk ρ' h).bind fun y h => (rv ρ' h).bind fun z h => match keyOf y with
          | some j => .ok (some (j, z)) h
          | none => .stuck
        else .ok none h
      | none => .stuck)) s.1 s.2 [] h).bind fun ps h => mkDic ps h
theorem dcomp_fin {K : Wr} {Z : List Addr} {G : Hp} {ι : List Addr} {h : MH} {H : Hp} {D : Addr} {ps : List (Key × PV)} {kvs : List (Key × V)} {Q : VK} {E : XK} (R : HR K (D :: Z) G ι h H) (hz : D ∉ Z) (e : H D = some (.dK kvs)) (ra : RK K G ι ps kvs) (p : RP exc K (rV K) Z G ι H (mkDic ps h) Q E) : Q (.ref D) H := by
  have R2 := R.doneR (m := .dic ps) (by rw [e]; exact (ra.mono (Up.refl _) (Pre.append _ _)).toO) hz
  refine p G (ι ++ [D]) H (.ref D) ⟨Up.refl _, Pre.append _ _, R2, fun _ _ => rfl⟩ (.ref ?_)
  rw [← R.len]; simp
theorem tDc_weak {K : Wr} {ri : Env' → MH → Res Src} {g : Ag} {vs : List Nat} {rt : Env' → MH → Res Bool} {rk rv : Env' → MH → Res PV} (hsl : ∀ i ∈ g.slots, i ∈ vs) {σ : L2.St} {H : Hp} {Q : VK}
    (q : tE exc K W (dcompR ri g vs rt rk rv) σ H Q) : tDc (tI exc K W ri) (tG K g) (tT exc K W0 rt) (tE exc K W0 rk) (tE exc K W0 rv) vs σ H Q := by
  obtain ⟨Z, G, ι, h, ρ, R, S, p⟩ := q
  unfold dcompR at p
  refine ⟨Z, G, ι, h, ρ, R, S, p.bind fun s h1 G1 ι1 H1 J n1 hJ p1 => ?_⟩
  intro D hD
  have hzD : D ∉ Z := n1.hr.freshZ hD
  generalize hbody : (fun (x : PV) (h : MH) => Res.nox (match bindG g x (wipeP ρ vs) h with
      | some ρ' => (rt ρ' h).bind fun b h => if b = true then (rk ρ' h).bind fun y h => (rv ρ' h).bind fun z h => match keyOf y with
          | some j => Res.ok (some (j, z)) h
          | none => .stuck
        else .ok none h
      | none => .stuck)) = body at p1
  refine ⟨fun i m H' => m = s.2.length - i ∧ i ≤ s.2.length ∧ ∃ G2 ι2 h2 acc vacc, Up G1 G2 ∧ Pre ι1 ι2 ∧ HR K (D :: Z) G2 ι2 h2 H' ∧ (∀ z ∈ Z, H' z = H1 z) ∧ H' D = some (.dK vacc) ∧ RK K G2 ι2 acc vacc ∧
    RP exc K (rV K) Z G2 ι2 H' ((compD body s.1 (s.2.drop i) acc h2).bind fun ps h => mkDic ps h) Q (fun cls d H' => W cls d σ H'), ⟨_, rfl, Nat.zero_le _, G1, ι1, h1, [], [], Up.refl _, Pre.refl _, n1.hr.make hD, fun z hz => upd_ne fun e => hzD (e ▸ hz), upd_same, .nil, ?_⟩, ?_⟩
  · exact RP.later p1 (h1 := h1) ⟨Up.refl _, Pre.refl _, (n1.hr.make hD).zless, fun z hz => upd_ne fun e => hzD (e ▸ hz)⟩
  · rintro i m H2 ⟨rfl, hi, G2, ι2, h2, acc, vacc, s2, pr2, R2, z2, eD, ra, p2⟩
    by_cases hlt : i < s.2.length
    · have ex : s.2[i]? = some s.2[i] := List.getElem?_eq_getElem hlt
      rw [List.drop_eq_getElem_cons hlt] at p2
      unfold compD at p2
      split at p2
      · rename_i hck
        obtain ⟨hchk, hsz⟩ := hck
        refine .inr ⟨hJ.go (D :: Z) G2 ι2 h2 H2 i s2 pr2 R2 hchk hlt, fun H' => ∃ m' < s.2.length - i, m' = s.2.length - (i + 1) ∧ ∃ G2 ι2 h2 acc vacc, Up G1 G2 ∧ Pre ι1 ι2 ∧ HR K (D :: Z) G2 ι2 h2 H' ∧ (∀ z ∈ Z, H' z = H1 z) ∧ H' D = some (.dK vacc) ∧ RK K G2 ι2 acc vacc ∧
          RP exc K (rV K) Z G2 ι2 H' ((compD body s.1 (s.2.drop (i + 1)) acc h2).bind fun ps h => mkDic ps h) Q (fun cls d H' => W cls d σ H'), ?_, ?_⟩
        · rintro H' ⟨m', hm, e, w⟩
          exact ⟨m', hm, e, hlt, w⟩
        · intro xv H3 hy
          obtain ⟨G3, ι3, n3, rx⟩ := hJ.yld (D :: Z) G2 ι2 h2 H2 i xv H3 _ s2 pr2 R2 hchk ex hy
          have p3 := RP.later p2 n3.zless
          rw [Res.assoc, ← hbody] at p3
          dsimp only at p3
          have S3 : SR K G3 ι3 (wipeP ρ vs) (L2.wipe σ vs) := (S.mono (n1.same.trans (s2.trans n3.same)) (n1.pre.trans (pr2.trans n3.pre))).wipe vs
          cases hb : bindG g s.2[i] (wipeP ρ vs) h2 with
          | none => rw [hb] at p3; exact p3.elim
          | some ρ' =>
            rw [hb] at p3
            dsimp only at p3
            refine ⟨D :: Z, G3, ι3, h2, wipeP ρ vs, s.2[i], ρ', n3.hr, S3, rx, hb, fun σ2 S2 l2 k2 => ⟨?_, ?_⟩⟩
            · have : L2.wipe σ2 vs = L2.wipe (L2.wipe σ vs) vs := wipe_same l2 fun j hj => k2 j fun q => hj (hsl j q)
              rw [this, wipe_wipe]
            · refine ⟨D :: Z, G3, ι3, h2, ρ', n3.hr, S2, p3.bindN fun b h4 G4 ι4 H4 b' n4 eb p4 => ?_⟩
              cases eb
              have e4 : H4 D = some (.dK vacc) := ((n4.zz D List.mem_cons_self).trans (n3.zz D List.mem_cons_self)).trans eD
              have z4 : ∀ z ∈ Z, H4 z = H1 z := fun z hz => ((n4.zz z (List.mem_cons_of_mem _ hz)).trans (n3.zz z (List.mem_cons_of_mem _ hz))).trans (z2 z hz)
              have s4 := s2.trans (n3.same.trans n4.same)
              have pr4 := pr2.trans (n3.pre.trans n4.pre)
              cases b with
              | false =>
                refine ⟨_, by omega, rfl, G4, ι4, h4, acc, vacc, s4, pr4, n4.hr, z4, e4, ra.mono (n3.same.trans n4.same) (n3.pre.trans n4.pre), ?_⟩
                rw [hbody] at p4
                exact p4
              | true =>
                refine ⟨D :: Z, G4, ι4, h4, ρ', n4.hr, S2.mono n4.same n4.pre, p4.bindN fun y h5 G5 ι5 H5 vy n5 ry p5 => ?_⟩
                refine ⟨D :: Z, G5, ι5, h5, ρ', n5.hr, S2.mono (n4.same.trans n5.same) (n4.pre.trans n5.pre), p5.bindN fun z h6 G6 ι6 H6 vz n6 rz p6 => ?_⟩
                have e6 : H6 D = some (.dK vacc) := ((n6.zz D List.mem_cons_self).trans (n5.zz D List.mem_cons_self)).trans e4
                have up6 := n3.same.trans (n4.same.trans (n5.same.trans n6.same))
                have pre6 := n3.pre.trans (n4.pre.trans (n5.pre.trans n6.pre))
                have ra6 := ra.mono up6 pre6
                cases hk : keyOf y with
                | none => rw [hk] at p6; exact p6.elim
                | some j =>
                  rw [hk, hbody] at p6
                  have p6' : RP exc K (rV K) Z G6 ι6 H6 ((compD body s.1 (s.2.drop (i + 1)) (kput acc j z) h6).bind fun ps h => mkDic ps h) Q (fun cls d H' => W cls d σ H') := p6
                  refine ⟨vacc, j, keyV ry hk, e6, by rw [← ra6.length]; exact hsz, ?_⟩
                  refine ⟨_, by omega, rfl, G6, ι6, h6, kput acc j z, putK vacc j vz, s2.trans up6, pr2.trans pre6, n6.hr.zput, fun w hw => ?_, upd_same, ra6.put j rz, ?_⟩
                  · have hne : w ≠ D := fun e => hzD (e ▸ hw)
                    rw [upd_ne hne]
                    exact (n6.zz w (List.mem_cons_of_mem _ hw)).trans ((n5.zz w (List.mem_cons_of_mem _ hw)).trans (z4 w hw))
                  · exact RP.later p6' (h1 := h6) ⟨Up.refl _, Pre.refl _, n6.hr.zput.zless, fun w hw => upd_ne fun e => hzD (e ▸ hw)⟩
      · exact p2.elim
    · have e : s.2.drop i = [] := List.drop_eq_nil_of_le (by omega)
      rw [e] at p2
      unfold compD at p2
      split at p2
      · rename_i hchk
        have p3 : RP exc K (rV K) Z G2 ι2 H2 (mkDic acc h2) Q (fun cls d H' => W cls d σ H') := p2
        exact .inl ⟨hJ.stop (D :: Z) G2 ι2 h2 H2 i s2 pr2 R2 hchk (by omega), dcomp_fin R2 hzD eD ra p3⟩
      · exact p2.elim
theorem me_dcomp {ke ve tg iter : Expr} {ifs : List Expr} {scope : Scope} {own : List (Str × Nat)} {pos : Pos} {ri : Env' → MH → Res Src} {g : Ag} {rt : Env' → MH → Res Bool} {rk rv : Env' → MH → Res PV} (hc : X.calm = true) (hN : X.N.Nodup)
    (hi : PI X tg iter (tI exc (kx X) W ri)) (ok : BlkOk X.N X.env.scope scope own) (hsl : ∀ i ∈ g.slots, i ∈ own.map (·.2))
    (hg : ∀ (s : Shared) (H : Hp) (C : Addr) (cl : List (Str × Addr)) (fp : List Addr), PG (X.blk s H scope (compEnvC scope cl C X.env) fp) tg (tG (kx X) g))
    (ht : ∀ (s : Shared) (H : Hp) (C : Addr) (cl : List (Str × Addr)) (fp : List Addr), PTs (X.blk s H scope (compEnvC scope cl C X.env) fp) ifs (tT exc (kx X) W0 rt))
    (hk : ∀ (s : Shared) (H : Hp) (C : Addr) (cl : List (Str × Addr)) (fp : List Addr), PE (X.blk s H scope (compEnvC scope cl C X.env) fp) ke (tE exc (kx X) W0 rk))
    (hv : ∀ (s : Shared) (H : Hp) (C : Addr) (cl : List (Str × Addr)) (fp : List Addr), PE (X.blk s H scope (compEnvC scope cl C X.env) fp) ve (tE exc (kx X) W0 rv)) (hs : ∀ x, foldedSetIterable iter X.env x = pure x) :
    PE X (.DictComp ke ve [⟨tg, iter, ifs, 0⟩] scope pos) (tE exc (kx X) W (dcompR ri g (own.map (·.2)) rt rk rv)) :=
  (pe_dc hc hN hi ok hg ht hk hv hs).weak fun σ H Q q => tDc_weak hsl q
/-! two clauses -/
noncomputable def in2 (g2 : Ag) (vs2 : List Nat) (re : Env' → MH → Res PV) (ρ' : Env') : PV → MH → Res (Option PV) := fun x h => match bindG g2 x (wipeP ρ' vs2) h with
  | some ρ2 => (re ρ2 h).bind fun y h => .ok (some y) h
  | none => .stuck
noncomputable def bd2 (g : Ag) (vs : List Nat) (ri2 : Env' → MH → Res Src) (g2 : Ag) (vs2 : List Nat) (re : Env' → MH → Res PV) (ρ : Env') : PV → List PV → MH → Res (List PV) := fun x acc h => Res.nox (match bindG g x (wipeP ρ vs) h with
  | some ρ' => (ri2 ρ' h).bind fun s2 h => compL (in2 g2 vs2 re ρ') s2.1 s2.2 acc h
  | none => .stuck)
noncomputable def comp2R (r : Bool) (ri : Env' → MH → Res Src) (g : Ag) (vs : List Nat) (ri2 : Env' → MH → Res Src) (g2 : Ag) (vs2 : List Nat) (re : Env' → MH → Res PV) : Env' → MH → Res PV := fun ρ h => (ri ρ h).bind fun s h => (compA (bd2 g vs ri2 g2 vs2 re ρ) s.1 s.2 [] h).bind fun xs h => if xs.length ≤ sizeLine then mkLst r xs h else .stuck
theorem bd2_len {g : Ag} {vs : List Nat} {ri2 : Env' → MH → Res Src} {g2 : Ag} {vs2 : List Nat} {re : Env' → MH → Res PV} {ρ : Env'} {x : PV} {acc ys : List PV} {h h' : MH} (e : bd2 g vs ri2 g2 vs2 re ρ x acc h = .ok ys h') : acc.length ≤ ys.length := by
  unfold bd2 at e
  cases hb : bindG g x (wipeP ρ vs) h with
  | none => rw [hb] at e; cases e
  | some ρ' =>
    rw [hb] at e
    dsimp only at e
    cases h1 : ri2 ρ' h with
    | stuck => rw [h1] at e; cases e
    | exn c v h => rw [h1] at e; cases e
    | ok s2 h2 =>
      rw [h1] at e
      have e' : (compL (in2 g2 vs2 re ρ') s2.1 s2.2 acc h2).nox = .ok ys h' := e
      cases q : compL (in2 g2 vs2 re ρ') s2.1 s2.2 acc h2 with
      | stuck => rw [q] at e'; cases e'
      | exn c v h => rw [q] at e'; cases e'
      | ok zs h3 =>
        rw [q] at e'
        cases e'
        exact compL_len q
theorem compA_len {g : Ag} {vs : List Nat} {ri2 : Env' → MH → Res Src} {g2 : Ag} {vs2 : List Nat} {re : Env' → MH → Res PV} {ρ : Env'} {l : List (Nat × List PV)} : ∀ {xs acc : List PV} {h : MH} {ys : List PV} {h' : MH}, compA (bd2 g vs ri2 g2 vs2 re ρ) l xs acc h = .ok ys h' → acc.length ≤ ys.length
  | [], acc, h, ys, h', e => by
    unfold compA at e
    split at e
    · cases e; exact Nat.le_refl _
    · cases e
  | x :: xs, acc, h, ys, h', e => by
    unfold compA at e
    split at e
    · cases q : bd2 g vs ri2 g2 vs2 re ρ x acc h with
      | stuck => rw [q] at e; cases e
      | exn c v h => rw [q] at e; cases e
      | ok zs h1 =>
        rw [q] at e
        exact Nat.le_trans (bd2_len q) (compA_len (show compA _ l xs zs h1 = _ from e))
    · cases e
theorem compA_nox {g : Ag} {vs : List Nat} {ri2 : Env' → MH → Res Src} {g2 : Ag} {vs2 : List Nat} {re : Env' → MH → Res PV} {ρ : Env'} {l : List (Nat × List PV)} : ∀ {xs acc : List PV} {h : MH} {c v h'}, compA (bd2 g vs ri2 g2 vs2 re ρ) l xs acc h ≠ .exn c v h'
  | [], acc, h, c, v, h', e => by
    unfold compA at e
    split at e <;> cases e
  | x :: xs, acc, h, c, v, h', e => by
    unfold compA at e
    split at e
    · cases q : bd2 g vs ri2 g2 vs2 re ρ x acc h with
      | stuck => rw [q] at e; cases e
      | exn c v h =>
        unfold bd2 at q
        generalize (match bindG g x (wipeP ρ vs) _ with
          | some ρ' => (ri2 ρ' _).bind fun s2 h => compL (in2 g2 vs2 re ρ') s2.1 s2.2 acc h
          | none => .stuck : Res (List PV)) = w at q
        cases w <;> cases q
      | ok zs h1 =>
        rw [q] at e
        exact compA_nox (show compA _ l xs zs h1 = _ from e)
    · cases e
/-- a step within the inner clause -/
theorem RP.bindN2 {K : Wr} {Z : List Addr} {G : Hp} {ι : List Addr} {H : Hp} {α β γ δ μ ν : Type} {R : Hp → List Addr → α → β → Prop} {R' : Hp → List Addr → γ → δ → Prop} {E E' : XK} {D : Addr} {A : Res α} {B : α → MH → Res μ} {B2 : μ → MH → Res ν} {f : ν → MH → Res γ} {Q : δ → Hp → Prop} {Q1 : β → Hp → Prop} (p : RP exc K R' Z G ι H ((Res.nox ((A.bind B).bind B2)).bind f) Q E)
    (k : ∀ a h1 G1 ι1 H1 b, Nx K (D :: Z) G ι H G1 ι1 h1 H1 → R G1 ι1 a b → RP exc K R' Z G1 ι1 H1 ((Res.nox ((B a h1).bind B2)).bind f) Q E → Q1 b H1) : RP exc K R (D :: Z) G ι H A Q1 E' := by
  rw [Res.assoc] at p
  exact p.bindN k
theorem tLc2_weak {K : Wr} {r : Bool} {ri ri2 : Env' → MH → Res Src} {g g2 : Ag} {vs vs2 : List Nat} {re : Env' → MH → Res PV} (hsl : ∀ i ∈ g.slots, i ∈ vs) (hsl2 : ∀ i ∈ g2.slots, i ∈ vs2) {σ : L2.St} {H : Hp} {Q : VK}
    (q : tE exc K W (comp2R r ri g vs ri2 g2 vs2 re) σ H Q) : tLc2 (tI exc K W ri) (tG K g) (tT exc K W0 fun _ h => .ok true h) (tI exc K W0 ri2) (tG K g2) (tT exc K W0 fun _ h => .ok true h) (tE exc K W0 re) vs vs2 σ H Q := by
  obtain ⟨Z, G, ι, h, ρ, R, S, p⟩ := q
  unfold comp2R at p
  refine ⟨Z, G, ι, h, ρ, R, S, p.bind fun s h1 G1 ι1 H1 J n1 hJ p1 => ?_⟩
  intro D hD
  have hzD : D ∉ Z := n1.hr.freshZ hD
  obtain ⟨fin, hfin⟩ : ∃ fin : List PV → MH → Res PV, (fun xs h => if xs.length ≤ sizeLine then mkLst r xs h else .stuck) = fin := ⟨_, rfl⟩
  rw [hfin] at p1
  have room : ∀ {G : Hp} {ι : List Addr} {H : Hp} {xs acc : List PV} {h : MH}, RP exc K (rV K) Z G ι H ((compA (bd2 g vs ri2 g2 vs2 re ρ) s.1 xs acc h).bind fin) Q (fun cls d H' => W cls d σ H') → acc.length ≤ sizeLine := fun {G ι H xs acc h} p => by
    cases ec : compA (bd2 g vs ri2 g2 vs2 re ρ) s.1 xs acc h with
    | stuck => rw [ec] at p; exact p.elim
    | exn c v h => exact absurd ec compA_nox
    | ok ys h6 =>
      rw [ec] at p
      have l6 := compA_len ec
      have p6 : RP exc K (rV K) Z G ι H (fin ys h6) Q (fun cls d H' => W cls d σ H') := p
      rw [← hfin] at p6
      dsimp only at p6
      split at p6
      · omega
      · exact p6.elim
  refine ⟨fun i m H' => m = s.2.length - i ∧ i ≤ s.2.length ∧ ∃ G2 ι2 h2 acc vacc, Up G1 G2 ∧ Pre ι1 ι2 ∧ HR K (D :: Z) G2 ι2 h2 H' ∧ (∀ z ∈ Z, H' z = H1 z) ∧ H' D = some (.lst vacc) ∧ RVs K G2 ι2 acc vacc ∧
    RP exc K (rV K) Z G2 ι2 H' ((compA (bd2 g vs ri2 g2 vs2 re ρ) s.1 (s.2.drop i) acc h2).bind fin) Q (fun cls d H' => W cls d σ H'), ⟨_, rfl, Nat.zero_le _, G1, ι1, h1, [], [], Up.refl _, Pre.refl _, n1.hr.make hD, fun z hz => upd_ne fun e => hzD (e ▸ hz), upd_same, .nil, ?_⟩, ?_⟩
  · exact RP.later p1 (h1 := h1) ⟨Up.refl _, Pre.refl _, (n1.hr.make hD).zless, fun z hz => upd_ne fun e => hzD (e ▸ hz)⟩
  · rintro i m H2 ⟨rfl, hi, G2, ι2, h2, acc, vacc, s2, pr2, R2, z2, eD, ra, p2⟩
    by_cases hlt : i < s.2.length
    · have ex : s.2[i]? = some s.2[i] := List.getElem?_eq_getElem hlt
      rw [List.drop_eq_getElem_cons hlt] at p2
      unfold compA at p2
      split at p2
      · rename_i hchk
        refine .inr ⟨hJ.go (D :: Z) G2 ι2 h2 H2 i s2 pr2 R2 hchk hlt, fun H' => ∃ m' < s.2.length - i, m' = s.2.length - (i + 1) ∧ ∃ G2 ι2 h2 acc vacc, Up G1 G2 ∧ Pre ι1 ι2 ∧ HR K (D :: Z) G2 ι2 h2 H' ∧ (∀ z ∈ Z, H' z = H1 z) ∧ H' D = some (.lst vacc) ∧ RVs K G2 ι2 acc vacc ∧
          RP exc K (rV K) Z G2 ι2 H' ((compA (bd2 g vs ri2 g2 vs2 re ρ) s.1 (s.2.drop (i + 1)) acc h2).bind fin) Q (fun cls d H' => W cls d σ H'), ?_, ?_⟩
        · rintro H' ⟨m', hm, e, w⟩
          exact ⟨m', hm, e, hlt, w⟩
        · intro xv H3 hy
          obtain ⟨G3, ι3, n3, rx⟩ := hJ.yld (D :: Z) G2 ι2 h2 H2 i xv H3 _ s2 pr2 R2 hchk ex hy
          have p3 := RP.later p2 n3.zless
          rw [Res.assoc] at p3
          have S3 : SR K G3 ι3 (wipeP ρ vs) (L2.wipe σ vs) := (S.mono (n1.same.trans (s2.trans n3.same)) (n1.pre.trans (pr2.trans n3.pre))).wipe vs
          obtain ⟨fA, hfA⟩ : ∃ fA : List PV → MH → Res PV, (fun a h => (compA (bd2 g vs ri2 g2 vs2 re ρ) s.1 (s.2.drop (i + 1)) a h).bind fin) = fA := ⟨_, rfl⟩
          have p3 : RP exc K (rV K) Z G3 ι3 H3 ((bd2 g vs ri2 g2 vs2 re ρ s.2[i] acc h2).bind fA) Q (fun cls d H' => W cls d σ H') := by rw [← hfA]; exact p3
          unfold bd2 at p3
          cases hb : bindG g s.2[i] (wipeP ρ vs) h2 with
          | none => rw [hb] at p3; exact p3.elim
          | some ρ' =>
            rw [hb] at p3
            dsimp only at p3
            refine ⟨D :: Z, G3, ι3, h2, wipeP ρ vs, s.2[i], ρ', n3.hr, S3, rx, hb, fun σ2 S2 l2 k2 => ⟨?_, ?_⟩⟩
            · have : L2.wipe σ2 vs = L2.wipe (L2.wipe σ vs) vs := wipe_same l2 fun j hj => k2 j fun q => hj (hsl j q)
              rw [this, wipe_wipe]
            · refine ⟨D :: Z, G3, ι3, h2, ρ', n3.hr, S2, fun G4 ι4 H4 b n4 eb => ?_⟩
              cases eb
              rw [if_pos rfl]
              have p4 := RP.later p3 n4.zless
              have e4 : H4 D = some (.lst vacc) := ((n4.zz D List.mem_cons_self).trans (n3.zz D List.mem_cons_self)).trans eD
              have z4 : ∀ z ∈ Z, H4 z = H1 z := fun z hz => ((n4.zz z (List.mem_cons_of_mem _ hz)).trans (n3.zz z (List.mem_cons_of_mem _ hz))).trans (z2 z hz)
              have s4 := s2.trans (n3.same.trans n4.same)
              have pr4 := pr2.trans (n3.pre.trans n4.pre)
              have S4 := S2.mono n4.same n4.pre
              refine ⟨D :: Z, G4, ι4, h2, ρ', n4.hr, S4, p4.bindN fun t h5 G5 ι5 H5 J1 n5 hJ1 p5 => ?_⟩
              have e5 : H5 D = some (.lst vacc) := (n5.zz D List.mem_cons_self).trans e4
              have z5 : ∀ z ∈ Z, H5 z = H1 z := fun z hz => (n5.zz z (List.mem_cons_of_mem _ hz)).trans (z4 z hz)
              have ra5 := ra.mono (n3.same.trans (n4.same.trans n5.same)) (n3.pre.trans (n4.pre.trans n5.pre))
              refine ⟨fun j k H' => k = t.2.length - j ∧ j ≤ t.2.length ∧ ∃ G6 ι6 h6 acc vacc, Up G5 G6 ∧ Pre ι5 ι6 ∧ HR K (D :: Z) G6 ι6 h6 H' ∧ (∀ z ∈ Z, H' z = H1 z) ∧ H' D = some (.lst vacc) ∧ RVs K G6 ι6 acc vacc ∧
                RP exc K (rV K) Z G6 ι6 H' ((Res.nox (compL (in2 g2 vs2 re ρ') t.1 (t.2.drop j) acc h6)).bind fA) Q (fun cls d H' => W cls d σ H'), ⟨_, rfl, Nat.zero_le _, G5, ι5, h5, acc, vacc, Up.refl _, Pre.refl _, n5.hr, z5, e5, ra5, p5⟩, ?_⟩
              rintro j k H6 ⟨rfl, hj, G6, ι6, h6, acc6, vacc6, s6, pr6, R6, z6, eD6, ra6, p6⟩
              by_cases hlt2 : j < t.2.length
              · have ex2 : t.2[j]? = some t.2[j] := List.getElem?_eq_getElem hlt2
                rw [List.drop_eq_getElem_cons hlt2] at p6
                unfold compL at p6
                split at p6
                · rename_i hchk2
                  refine .inr ⟨hJ1.go (D :: Z) G6 ι6 h6 H6 j s6 pr6 R6 hchk2 hlt2, fun H' => ∃ k' < t.2.length - j, k' = t.2.length - (j + 1) ∧ ∃ G6 ι6 h6 acc vacc, Up G5 G6 ∧ Pre ι5 ι6 ∧ HR K (D :: Z) G6 ι6 h6 H' ∧ (∀ z ∈ Z, H' z = H1 z) ∧ H' D = some (.lst vacc) ∧ RVs K G6 ι6 acc vacc ∧
                    RP exc K (rV K) Z G6 ι6 H' ((Res.nox (compL (in2 g2 vs2 re ρ') t.1 (t.2.drop (j + 1)) acc h6)).bind fA) Q (fun cls d H' => W cls d σ H'), ?_, ?_⟩
                  · rintro H' ⟨k', hk, e, w⟩
                    exact ⟨k', hk, e, hlt2, w⟩
                  · intro xv2 H7 hy2
                    obtain ⟨G7, ι7, n7, rx2⟩ := hJ1.yld (D :: Z) G6 ι6 h6 H6 j xv2 H7 _ s6 pr6 R6 hchk2 ex2 hy2
                    have p7 := RP.later p6 n7.zless
                    have S7 : SR K G7 ι7 (wipeP ρ' vs2) (L2.wipe σ2 vs2) := (S4.mono (n5.same.trans (s6.trans n7.same)) (n5.pre.trans (pr6.trans n7.pre))).wipe vs2
                    unfold in2 at p7
                    cases hb2 : bindG g2 t.2[j] (wipeP ρ' vs2) h6 with
                    | none => rw [hb2] at p7; exact p7.elim
                    | some ρ2 =>
                      rw [hb2] at p7
                      dsimp only at p7
                      refine ⟨D :: Z, G7, ι7, h6, wipeP ρ' vs2, t.2[j], ρ2, n7.hr, S7, rx2, hb2, fun σ3 S3' l3 k3 => ⟨?_, ?_⟩⟩
                      · have : L2.wipe σ3 vs2 = L2.wipe (L2.wipe σ2 vs2) vs2 := wipe_same l3 fun a ha => k3 a fun q => ha (hsl2 a q)
                        rw [this, wipe_wipe]
                      · refine ⟨D :: Z, G7, ι7, h6, ρ2, n7.hr, S3', fun G8 ι8 H8 b n8 eb => ?_⟩
                        cases eb
                        rw [if_pos rfl]
                        have p8 := RP.later p7 n8.zless
                        refine ⟨D :: Z, G8, ι8, h6, ρ2, n8.hr, S3'.mono n8.same n8.pre, p8.bindN2 fun y h9 G9 ι9 H9 vy n9 ry p9 => ?_⟩
                        have e9 : H9 D = some (.lst vacc6) := ((n9.zz D List.mem_cons_self).trans ((n8.zz D List.mem_cons_self).trans (n7.zz D List.mem_cons_self))).trans eD6
                        have up9 := n7.same.trans (n8.same.trans n9.same)
                        have pre9 := n7.pre.trans (n8.pre.trans n9.pre)
                        have ra9 := ra6.mono up9 pre9
                        have p9' : RP exc K (rV K) Z G9 ι9 H9 ((Res.nox (compL (in2 g2 vs2 re ρ') t.1 (t.2.drop (j + 1)) (acc6 ++ [y]) h9)).bind fA) Q (fun cls d H' => W cls d σ H') := p9
                        refine ⟨vacc6, e9, ?_, ?_⟩
                        · rw [← ra9.length]
                          cases ec : compL (in2 g2 vs2 re ρ') t.1 (t.2.drop (j + 1)) (acc6 ++ [y]) h9 with
                          | stuck => rw [ec] at p9'; exact p9'.elim
                          | exn c v h => rw [ec] at p9'; exact p9'.elim
                          | ok ys h10 =>
                            rw [ec] at p9'
                            have l6 := compL_len ec
                            rw [List.length_append, List.length_singleton] at l6
                            have p10 : RP exc K (rV K) Z G9 ι9 H9 (fA ys h10) Q (fun cls d H' => W cls d σ H') := p9'
                            rw [← hfA] at p10
                            have := room p10
                            omega
                        · refine ⟨_, by omega, rfl, G9, ι9, h9, acc6 ++ [y], vacc6 ++ [vy], s6.trans up9, pr6.trans pre9, n9.hr.zput, fun z hz => ?_, upd_same, ra9.append (.cons ry .nil), ?_⟩
                          · have hne : z ≠ D := fun e => hzD (e ▸ hz)
                            rw [upd_ne hne]
                            exact (n9.zz z (List.mem_cons_of_mem _ hz)).trans ((n8.zz z (List.mem_cons_of_mem _ hz)).trans ((n7.zz z (List.mem_cons_of_mem _ hz)).trans (z6 z hz)))
                          · exact RP.later p9' (h1 := h9) ⟨Up.refl _, Pre.refl _, n9.hr.zput.zless, fun z hz => upd_ne fun e => hzD (e ▸ hz)⟩
                · exact p6.elim
              · have e : t.2.drop j = [] := List.drop_eq_nil_of_le (by omega)
                rw [e] at p6
                unfold compL at p6
                split at p6
                · rename_i hchk2
                  have p7 : RP exc K (rV K) Z G6 ι6 H6 (fA acc6 h6) Q (fun cls d H' => W cls d σ H') := p6
                  rw [← hfA] at p7
                  exact .inl ⟨hJ1.stop (D :: Z) G6 ι6 h6 H6 j s6 pr6 R6 hchk2 (by omega), _, by omega, rfl, G6, ι6, h6, acc6, vacc6, s4.trans (n5.same.trans s6), pr4.trans (n5.pre.trans pr6), R6, z6, eD6, ra6, p7⟩
                · exact p6.elim
      · exact p2.elim
    · have e : s.2.drop i = [] := List.drop_eq_nil_of_le (by omega)
      rw [e] at p2
      unfold compA at p2
      split at p2
      · rename_i hchk
        have p3 : RP exc K (rV K) Z G2 ι2 H2 (fin acc h2) Q (fun cls d H' => W cls d σ H') := p2
        rw [← hfin] at p3
        dsimp only at p3
        refine .inl ⟨hJ.stop (D :: Z) G2 ι2 h2 H2 i s2 pr2 R2 hchk (by omega), ?_⟩
        split at p3
        · exact comp_fin R2 hzD eD ra p3
        · exact p3.elim
      · exact p2.elim
theorem me_comp2 {elt tg iter tg2 iter2 : Expr} {scope : Scope} {own : List (Str × Nat)} {vs2 : List Nat} {pos : Pos} {r : Bool} {ri ri2 : Env' → MH → Res Src} {g g2 : Ag} {re : Env' → MH → Res PV} (hc : X.calm = true) (hN : X.N.Nodup)
    (hi : PI X tg iter (tI exc (kx X) W ri)) (ok : BlkOk X.N X.env.scope scope own) (hsl : ∀ i ∈ g.slots, i ∈ own.map (·.2)) (hsl2 : ∀ i ∈ g2.slots, i ∈ vs2) (hv : ∀ i ∈ vs2, i ∈ own.map (·.2))
    (hg : ∀ (s : Shared) (H : Hp) (C : Addr) (cl : List (Str × Addr)) (fp : List Addr), PG (X.blk s H scope (compEnvC scope cl C X.env) fp) tg (tG (kx X) g))
    (hi2 : ∀ (s : Shared) (H : Hp) (C : Addr) (cl : List (Str × Addr)) (fp : List Addr), PI (X.blk s H scope (compEnvC scope cl C X.env) fp) tg2 iter2 (tI exc (kx X) W0 ri2))
    (hg2 : ∀ (s : Shared) (H : Hp) (C : Addr) (cl : List (Str × Addr)) (fp : List Addr), PG (X.blk s H scope (compEnvC scope cl C X.env) fp) tg2 (tG (kx X) g2))
    (he : ∀ (s : Shared) (H : Hp) (C : Addr) (cl : List (Str × Addr)) (fp : List Addr), PE (X.blk s H scope (compEnvC scope cl C X.env) fp) elt (tE exc (kx X) W0 re)) (hs : ∀ x, foldedSetIterable iter X.env x = pure x) (hs2 : ∀ env x, foldedSetIterable iter2 env x = pure x) :
    PE X (.ListComp elt [⟨tg, iter, [], 0⟩, ⟨tg2, iter2, [], 0⟩] scope pos) (tE exc (kx X) W (comp2R r ri g (own.map (·.2)) ri2 g2 vs2 re)) :=
  (pe_lc2 hc hN hi ok hv hg (fun _ _ _ _ _ => mt_none) hi2 hg2 (fun _ _ _ _ _ => mt_none) he hs hs2).weak fun σ H Q q => tLc2_weak hsl hsl2 q
/-- a dict comprehension that a name takes, the name a local -/
theorem ps_setDc {i : Nat} {y : Str} {py : Pos} {ke ve tg iter : Expr} {ifs : List Expr} {scope : Scope} {own : List (Str × Nat)} {pos spos : Pos} {wi : TI} {g : TG} {tt : TT} {tk tv : TE} (hc : X.calm = true) (hN : X.N.Nodup) (hy : X.N[i]? = some y) (hyl : X.env.scope.names.lookup y = some .local)
    (hsw : swapsWith (.DictComp ke ve [⟨tg, iter, ifs, 0⟩] scope pos) (some (.Name y py)) spos.line X.env = pure true) (hi : PI X tg iter wi) (ok : BlkOk X.N X.env.scope scope own)
    (hg : ∀ (s : Shared) (H : Hp) (B : Addr) (cl : List (Str × Addr)) (fp : List Addr), PG (X.blk s H scope (compEnvC scope cl B X.env) fp) tg g) (ht : ∀ (s : Shared) (H : Hp) (B : Addr) (cl : List (Str × Addr)) (fp : List Addr), PTs (X.blk s H scope (compEnvC scope cl B X.env) fp) ifs tt)
    (hk : ∀ (s : Shared) (H : Hp) (B : Addr) (cl : List (Str × Addr)) (fp : List Addr), PE (X.blk s H scope (compEnvC scope cl B X.env) fp) ke tk)
    (hv : ∀ (s : Shared) (H : Hp) (B : Addr) (cl : List (Str × Addr)) (fp : List Addr), PE (X.blk s H scope (compEnvC scope cl B X.env) fp) ve tv) (hs : ∀ x, foldedSetIterable iter X.env x = pure x) :
    PS X (.Assign [.Name y py] (.DictComp ke ve [⟨tg, iter, ifs, 0⟩] scope pos) spos) (tAsg (tDc wi g tt tk tv (own.map (·.2))) (gName i)) := by
  refine ⟨fun pins s σ H D I h => ?_⟩
  rw [exec_Assign_Name_used _ _ _ _ hsw]
  refine wpAny_bind (wpAny_standAt (wpAny_bind ?_))
  show wpAny _ X.A (do let _ ← comprehension (.DictComp ke ve [⟨tg, iter, ifs, 0⟩] scope pos) scope X.env (firstIterPos [⟨tg, iter, ifs, 0⟩] pos) newDict false (eval iter X.env) (some (assign (.Name y py) X.env))) _ _ s
  have hh : tDc wi g tt tk tv (own.map (·.2)) σ H (fun x H1 => gName i x σ H1 D.nx) := h
  refine wpAny_bind (thn (dc_core (Qf := fun _ s' => SP X pins D .next s') hc hN I hi ok hg ht hk hv hs hh fun L B s' m H' I' q hn f => ?_) fun _ s' hq => wpAny_pure (wpAny_pure hq))
  show wpAny _ _ (assign (.Name y py) X.env (.ref L)) _ _ _
  refine wpAny_assign_Name (store_ok2 (v := V.ref L) I' hN hy (.inl hyl) rfl (fun s2 I2 ⟨a, sb, ha⟩ => ?_) (.inr hyl))
  obtain ⟨g0, g1, g2, g3, g4, g5⟩ := f
  have ne : B ≠ a := by
    rcases ha with z | z
    · rw [z]; exact g1
    · exact fun e => g4 y a z e.symm
  exact ⟨m, hn.sameBut sb ne, fun h3 sb3 => ⟨_, H', I2.turned (t' := s2.toks) (fun b o hb e => (sb3.2 b hb).trans e) g0 g1 g3 g4 g5, q⟩⟩
end
end Mx

end

section
set_option Elab.async false
set_option Elab.async false
set_option linter.all false
set_option maxRecDepth 100000
set_option maxHeartbeats 4000000
/-! How a def's parameters are bound. -/
namespace Mx
open PySem PySem.Spec PyProof.Rows L2
theorem lookup_app {α : Type} {x : Str} : ∀ {l r : List (Str × α)}, l.lookup x = none → (l ++ r).lookup x = r.lookup x
  | [], r, _ => rfl
  | (k, v) :: l, r, h => by
    rw [List.lookup_cons] at h
    rw [List.cons_append, List.lookup_cons]
    cases hb : x == k with
    | true => rw [hb] at h; cases h
    | false => rw [hb] at h; exact lookup_app h
theorem lookup_none {α : Type} {x : Str} : ∀ {l : List (Str × α)}, x ∉ l.map (·.1) → l.lookup x = none
  | [], _ => rfl
  | (k, v) :: l, h => by
    rw [List.lookup_cons]
    rw [List.map_cons, List.mem_cons, not_or] at h
    have : (x == k) = false := beq_eq_false_iff_ne.mpr h.1
    rw [this]
    exact lookup_none h.2
theorem zip_fst {α : Type} {ps : List Str} {us : List α} {x : Str} (h : x ∈ (ps.zip us).map (·.1)) : x ∈ ps.take us.length := by
  obtain ⟨⟨a, b⟩, h1, rfl⟩ := List.mem_map.mp h
  induction ps generalizing us with
  | nil => simp at h1
  | cons p ps ih =>
    cases us with
    | nil => simp at h1
    | cons u us =>
      rw [List.zip_cons_cons] at h1
      rw [List.length_cons, List.take_succ_cons]
      rcases List.mem_cons.mp h1 with e | h1
      · cases e; exact List.mem_cons_self
      · exact List.mem_cons_of_mem _ (ih h1 (List.mem_map.mpr ⟨_, h1, rfl⟩))
section
variable {α : Type}
theorem looks_congr {kv kv' : List (Str × α)} : ∀ {qs : List Str}, (∀ n ∈ qs, kv.lookup n = kv'.lookup n) → looks kv qs = looks kv' qs
  | [], _ => rfl
  | q :: qs, h => by
    unfold looks
    rw [h q List.mem_cons_self, looks_congr fun n hn => h n (List.mem_cons_of_mem _ hn)]
theorem looks_all {kv : List (Str × α)} : ∀ {qs : List Str} {zs : List α}, looks kv qs = some zs → ∀ n ∈ qs, ∃ v, kv.lookup n = some v
  | q :: qs, zs, h, n, hn => by
    unfold looks at h
    cases e : kv.lookup q with
    | none => rw [e] at h; cases h
    | some a =>
      cases e2 : looks kv qs with
      | none => rw [e, e2] at h; cases h
      | some b =>
        rcases List.mem_cons.mp hn with rfl | hn
        · exact ⟨a, e⟩
        · exact looks_all e2 n hn
theorem looks_map {kv : List (Str × α)} : ∀ {qs : List Str} {zs : List α}, looks kv qs = some zs → (qs.filterMap fun n => (kv.lookup n).map (n, ·)) = qs.zip zs
  | [], zs, h => by simp [looks] at h; subst h; rfl
  | q :: qs, zs, h => by
    unfold looks at h
    cases e : kv.lookup q with
    | none => rw [e] at h; cases h
    | some a =>
      cases e2 : looks kv qs with
      | none => rw [e, e2] at h; cases h
      | some b =>
        rw [e, e2] at h
        cases h
        rw [List.filterMap_cons]
        simp only [e, Option.map_some, List.zip_cons_cons, looks_map e2]
theorem looks_app {kv : List (Str × α)} : ∀ {ps qs : List Str} {ys zs : List α}, looks kv ps = some ys → looks kv qs = some zs → looks kv (ps ++ qs) = some (ys ++ zs)
  | [], qs, ys, zs, h, h' => by simp [looks] at h; subst h; exact h'
  | p :: ps, qs, ys, zs, h, h' => by
    unfold looks at h
    cases e : kv.lookup p with
    | none => rw [e] at h; cases h
    | some a =>
      cases e2 : looks kv ps with
      | none => rw [e, e2] at h; cases h
      | some b =>
        rw [e, e2] at h
        cases h
        rw [List.cons_append]
        unfold looks
        rw [e, looks_app e2 h']
        rfl
theorem looks_zip : ∀ {qs : List Str} {us : List α} {r : List (Str × α)}, qs.Nodup → qs.length = us.length → looks (qs.zip us ++ r) qs = some us
  | [], [], _, _, _ => rfl
  | [], _ :: _, _, _, h => by cases h
  | _ :: _, [], _, _, h => by cases h
  | q :: qs, u :: us, r, nd, hl => by
    rw [List.nodup_cons] at nd
    unfold looks
    rw [List.zip_cons_cons, List.cons_append, List.lookup_cons_self]
    have : looks ((q, u) :: (qs.zip us ++ r)) qs = some us := by
      rw [looks_congr (kv' := qs.zip us ++ r) fun n hn => ?_]
      · exact looks_zip nd.2 (by simpa using hl)
      · rw [List.lookup_cons]
        have : (n == q) = false := beq_eq_false_iff_ne.mpr fun e => nd.1 (e ▸ hn)
        rw [this]
    rw [this]
theorem args_looks {ps ks : List Str} {us ws as : List α} (nd : ps.Nodup) (h : argsOf ps us ks ws = some as) : looks (ps.zip us ++ ks.zip ws) ps = some as ∧ us.length ≤ ps.length ∧ ks.Nodup ∧ ∀ k ∈ ks, k ∈ ps ∧ k ∉ (ps.zip us).map (·.1) := by
  unfold argsOf at h
  split at h
  · rename_i hc
    obtain ⟨h1, h2, h3, h4⟩ := hc
    cases e : looks (ks.zip ws) (ps.drop us.length) with
    | none => rw [e] at h; cases h
    | some zs =>
      rw [e] at h
      cases h
      have nd' := nd
      rw [← List.take_append_drop us.length ps] at nd'
      have apart : ∀ n ∈ ps.drop us.length, n ∉ (ps.zip us).map (·.1) := fun n hn q => (List.nodup_append.mp nd').2.2 n (zip_fst q) n hn rfl
      refine ⟨?_, by omega, h3, fun k hk => ⟨List.mem_of_mem_drop (h4 k hk), apart k (h4 k hk)⟩⟩
      have e1 : looks (ps.zip us ++ ks.zip ws) (ps.take us.length) = some us := by
        have ez : ps.zip us = (ps.take us.length).zip us := by
          conv => lhs; rw [← List.take_append_drop us.length ps]
          have hl : (ps.take us.length).length = us.length := by rw [List.length_take]; omega
          have := List.zip_append (l₁ := ps.take us.length) (l₂ := us) (r₁ := ps.drop us.length) (r₂ := ([] : List α)) hl
          simpa using this
        rw [ez]
        exact looks_zip ((List.take_sublist _ _).nodup nd) (by rw [List.length_take]; omega)
      have e2 : looks (ps.zip us ++ ks.zip ws) (ps.drop us.length) = some zs := by
        rw [looks_congr (kv' := ks.zip ws) fun n hn => lookup_app (lookup_none (apart n hn))]
        exact e
      have := looks_app e1 e2
      rwa [List.take_append_drop] at this
  · cases h
end
theorem kw_loop {ps : List Str} (f : Str × Value → List (Str × Value) × List (Str × Value) → Sem (ForInStep (List (Str × Value) × List (Str × Value))))
    (hf : ∀ k v s e, k ∈ ps → s.lookup k = none → f (k, v) (s, e) = pure (.yield (s ++ [(k, v)], e))) :
    ∀ (l s e : List (Str × Value)), (∀ p ∈ l, p.1 ∈ ps ∧ p.1 ∉ s.map (·.1)) → (l.map (·.1)).Nodup → forIn l (s, e) f = pure (s ++ l, e)
  | [], s, e, _, _ => by rw [List.forIn_nil, List.append_nil]
  | (k, v) :: l, s, e, h, nd => by
    rw [List.map_cons, List.nodup_cons] at nd
    rw [List.forIn_cons, hf k v s e (h _ List.mem_cons_self).1 (lookup_none (h _ List.mem_cons_self).2)]
    have ih := kw_loop f hf l (s ++ [(k, v)]) e (fun p hp => ⟨(h p (List.mem_cons_of_mem _ hp)).1, fun q => ?_⟩) nd.2
    · rw [List.append_assoc] at ih
      exact ih
    · rw [List.map_append, List.mem_append] at q
      rcases q with q | q
      · exact (h p (List.mem_cons_of_mem _ hp)).2 q
      · have : p.1 = k := by simpa using q
        exact nd.1 (List.mem_map.mpr ⟨p, hp, this⟩)
theorem zip_keys {ks : List Str} {ws : List Value} (nd : ks.Nodup) : ((ks.zip ws).map (·.1)).Nodup := by
  induction ks generalizing ws with
  | nil => simp
  | cons k ks ih =>
    cases ws with
    | nil => simp
    | cons w ws =>
      rw [List.nodup_cons] at nd
      rw [List.zip_cons_cons, List.map_cons, List.nodup_cons]
      exact ⟨fun q => nd.1 (List.mem_of_mem_take (zip_fst q)), ih nd.2⟩
theorem binds_all {fd : FuncData} {ps : List Str} (h1 : fd.params.posonlyargs = []) (h2 : fd.params.kwonlyargs = []) (h3 : fd.params.vararg = none) (h4 : fd.params.kwarg = none) (hd : fd.defaults = .none) (hn : fd.params.args.map (·.arg) = ps) (nd : ps.Nodup)
    {us ws as : List Value} {ks : List Str} (h : argsOf ps us ks ws = some as) : bindArgs fd ⟨us, ks.zip ws⟩ = pure (ps.zip as) := by
  obtain ⟨hl, hle, kn, kin⟩ := args_looks nd h
  unfold bindArgs
  simp only [h1, h2, h3, h4, hd, hn, List.map_nil, List.nil_append]
  rw [kw_loop (ps := ps)]
  · simp only [pure_bind]
    have e0 : (seqItems? Value.none : Sem (Option (Array Value))) = pure none := rfl
    have e1 : decide (us.length > ps.length) = false := decide_eq_false (by omega)
    have e2 : (List.filter (fun n => (List.lookup n (ps.zip us ++ ks.zip ws)).isNone) ps) = [] := by
      rw [List.filter_eq_nil_iff]
      intro n hn
      obtain ⟨v, e⟩ := looks_all hl n hn
      rw [e]; simp
    simp only [e0, pure_bind, e1, Bool.false_and, Bool.false_eq_true, if_false, Option.getD_none, List.length_nil, Nat.sub_zero, List.take_length, e2, List.isEmpty_nil, Bool.not_true, List.drop_length, List.drop_nil, List.zip_nil_right, List.zip_nil_left, List.forIn_nil, List.append_nil, List.take_nil, List.drop_zero]
    rw [looks_map hl]
  · intro k v s e hk hs
    have hk' : ps.contains k = true := List.contains_iff_mem.mpr hk
    simp only [hk', hs, Bool.true_or, if_true, Option.isSome_none, Bool.false_eq_true, if_false]
  · intro p hp
    exact kin p.1 (List.of_mem_zip hp).1
  · exact zip_keys kn
end Mx

end

section
set_option Elab.async false
set_option Elab.async false
set_option linter.all false
set_option maxRecDepth 100000
set_option maxHeartbeats 4000000
/-! Calls of the program's own defs. -/
namespace Mx
open PySem PySem.Spec PyProof.Rows L2
theorem takesN {X : Cx} : Takes X W0 := fun _ _ x => by
  obtain ⟨a, B, sI, pins, σ, H, cls, d, e, I, nb, up, sky, na, os, ag, w⟩ := x
  exact w.elim
section
variable {α β : Type} {R : α → β → Prop}
theorem lookup_rel : ∀ {ks : List Str} {xs : List α} {us : List β}, Paired R xs us → ∀ {k : Str} {a : α}, (ks.zip xs).lookup k = some a → ∃ b, (ks.zip us).lookup k = some b ∧ R a b
  | [], _, _, _, k, a, e => by simp at e
  | q :: ks, _, _, .nil, k, a, e => by simp at e
  | q :: ks, _, _, .cons (a := x) (b := u) r t, k, a, e => by
    rw [List.zip_cons_cons, List.lookup_cons] at e
    rw [List.zip_cons_cons, List.lookup_cons]
    cases hb : k == q with
    | true => rw [hb] at e; cases e; exact ⟨u, rfl, r⟩
    | false => rw [hb] at e; exact lookup_rel t e
theorem looks_rel {kv : List (Str × α)} {kw : List (Str × β)} (h : ∀ k a, kv.lookup k = some a → ∃ b, kw.lookup k = some b ∧ R a b) : ∀ {ps : List Str} {as : List α}, looks kv ps = some as → ∃ bs, looks kw ps = some bs ∧ Paired R as bs
  | [], as, e => by simp [looks] at e; subst e; exact ⟨[], rfl, .nil⟩
  | p :: ps, as, e => by
    unfold looks at e
    cases e1 : kv.lookup p with
    | none => rw [e1] at e; cases e
    | some a =>
      cases e2 : looks kv ps with
      | none => rw [e1, e2] at e; cases e
      | some bs =>
        rw [e1, e2] at e
        cases e
        obtain ⟨b, q1, q2⟩ := h p a e1
        obtain ⟨cs, q3, q4⟩ := looks_rel h e2
        refine ⟨b :: cs, ?_, .cons q2 q4⟩
        unfold looks
        rw [q1, q3]
theorem Paired.app {as cs : List α} {bs ds : List β} (h : Paired R as bs) (h' : Paired R cs ds) : Paired R (as ++ cs) (bs ++ ds) := by
  induction h with
  | nil => exact h'
  | cons r _ ih => exact .cons r ih
theorem args_rel {ps ks : List Str} {xs ys as : List α} {us ws : List β} (h1 : Paired R xs us) (h2 : Paired R ys ws) (e : argsOf ps xs ks ys = some as) : ∃ bs, argsOf ps us ks ws = some bs ∧ Paired R as bs := by
  unfold argsOf at e
  split at e
  · rename_i hc
    cases e1 : looks (ks.zip ys) (ps.drop xs.length) with
    | none => rw [e1] at e; cases e
    | some zs =>
      rw [e1] at e
      cases e
      rw [h1.length] at e1
      obtain ⟨bs, q1, q2⟩ := looks_rel (fun k a => lookup_rel h2) e1
      refine ⟨us ++ bs, ?_, Paired.app h1 q2⟩
      unfold argsOf
      rw [if_pos (by rw [← h1.length, ← h2.length]; exact hc), q1]
      rfl
  · cases e
end
theorem rvs_paired {K : Wr} {G : Hp} {ι : List Addr} : ∀ {xs : List PV} {vs : List V}, RVs K G ι xs vs → ∀ {us : List Value}, Vals vs us → Paired (fun x u => ∃ v, RV K G ι x v ∧ RelV v u) xs us
  | _, _, .nil, _, .nil => .nil
  | _, _, .cons r t, _, .cons r' t' => .cons ⟨_, r, r'⟩ (rvs_paired t t')
theorem paired_rvs {K : Wr} {G : Hp} {ι : List Addr} : ∀ {xs : List PV} {us : List Value}, Paired (fun x u => ∃ v, RV K G ι x v ∧ RelV v u) xs us → ∃ vs, RVs K G ι xs vs ∧ Vals vs us
  | _, _, .nil => ⟨[], .nil, .nil⟩
  | _, _, .cons ⟨v, r, r'⟩ t => by
    obtain ⟨vs, q1, q2⟩ := paired_rvs t
    exact ⟨v :: vs, .cons r q1, .cons r' q2⟩

/-! ### no star -/
def nostar : List Expr → Bool
  | [] => true
  | .Starred _ _ :: _ => false
  | _ :: es => nostar es
theorem nostar_at {e : Expr} {es : List Expr} (h : nostar (e :: es) = true) (env : Env) : starEach (e :: es) env = (false, eval e env) :: starEach es env ∧ nostar es = true := by
  cases e <;> first | exact ⟨rfl, h⟩ | cases h
theorem nostar_any {pos : Pos} {env : Env} : ∀ {es : List Expr}, nostar es = true → (backTo pos (starEach es env)).any (·.1) = false
  | [], _ => rfl
  | e :: es, h => by
    obtain ⟨h1, h2⟩ := nostar_at h env
    rw [h1]
    show (false || (backTo pos (starEach es env)).any (·.1)) = false
    rw [nostar_any h2]; rfl
theorem kw_names {pos : Pos} {env : Env} : ∀ {ks : List Str} {kws : List Keyword}, kws.map (·.arg) = ks.map some → (backToKw pos (keywordEach kws env)).all (·.1.isSome) = true ∧ (backToKw pos (keywordEach kws env)).any (·.1.isNone) = false ∧ (backToKw pos (keywordEach kws env)).filterMap (·.1) = ks
  | [], [], _ => ⟨rfl, rfl, rfl⟩
  | [], _ :: _, h => by cases h
  | _ :: _, [], h => by cases h
  | k :: ks, ⟨n, e, kp⟩ :: kws, h => by
    rw [List.map_cons, List.map_cons, List.cons.injEq] at h
    obtain ⟨h1, h2⟩ := h
    have h1 : n = some k := h1
    subst h1
    obtain ⟨q1, q2, q3⟩ := kw_names (pos := pos) (env := env) h2
    refine ⟨?_, ?_, ?_⟩
    · show (true && (backToKw pos (keywordEach kws env)).all (·.1.isSome)) = true
      rw [q1]; rfl
    · show (false || (backToKw pos (keywordEach kws env)).any (·.1.isNone)) = false
      rw [q2]; rfl
    · show k :: (backToKw pos (keywordEach kws env)).filterMap (·.1) = k :: ks
      rw [q3]

/-- what is written of a def -/
structure DefK (K : Wr) (f : Str) (a : Addr) (fd : FuncData) (ps : List Str) : Prop where
  mg : K.mg f = some (.ref a)
  keep : PySem.W.keepIn K.K (.ref a) = true
  po : fd.params.posonlyargs = []
  ko : fd.params.kwonlyargs = []
  va : fd.params.vararg = none
  ka : fd.params.kwarg = none
  df : fd.defaults = .none
  nm : fd.params.args.map (·.arg) = ps
  nd : ps.Nodup
theorem _root_.L2.PK.weak {X : Cx} {es : List Keyword} {t t' : TA} (h : PK X es t) (k : ∀ σ H Q, t' σ H Q → t σ H Q) : PK X es t' := ⟨fun pos pins s σ H Q I q => h.run pos pins s σ H Q I (k σ H Q q)⟩
/-- a def's promise to callers that no text of a value is being made around -/
structure FnG (P : Program) (w : World) (K : PySem.W.Frag) (mg : Str → Option Value) (base : Heap) (C : CXT) (k : Nat) (f : Addr) (fd : FuncData) (ps : List Str) (sp : Sp) : Prop where
  len : ∀ vs H Q E, sp vs H Q E → vs.length = ps.length
  go : ∀ (A : Around) (out : List Env) (s : Shared) (H : Hp) (gs : Args) (us : List Value) (vs : List V) (Q : VK) (E : XK), A.guards = some [] → Room k A → Env0 P w K mg base A out s H → BindsTo s fd gs (ps.zip us) → Vals vs us → sp vs H Q E →
    codeAny (model P w) A (.call (.ref f) gs) (CR C out P w H s Q E) s
section
variable {X : Cx} {exc : List Str} {W : WX}
theorem run_fnM {k : Nat} {a : Addr} {fd : FuncData} {ps ks : List Str} {sp : Sp} {E : XK} {pins : List (Addr × Obj)} {σ : L2.St} {H : Hp} {s : Shared} {Q : VK} {us ws as : List Value} {vs : List V} (F : FnG X.prog X.w X.K X.mg X.base (L2.CX X.prog X.w) k a fd ps sp) (hgd : X.A.guards = some []) (hr : Room k X.A)
    (hb : BindsTo s fd ⟨us, ks.zip ws⟩ (ps.zip as)) (hx : PassesAt (L2.CX X.prog X.w) X σ E) (I : Inv X pins σ H s) (r : Vals vs as) (h : sp vs H Q E) :
    wpAny (model X.prog X.w) X.A (PySem.call (.ref a) us (ks.zip ws)) (EP X pins σ Q) X.xe s := by
  refine wpAny_call (codeAny_mono (F.go X.A X.stack s H ⟨us, ks.zip ws⟩ as vs Q E hgd hr I.env0 hb r h) fun r s' hq => ?_)
  cases r with
  | error e => exact hx pins H s e s' I hq
  | ok fl =>
    cases fl with
    | ret u => exact I.after hq
    | next => exact False.elim hq
    | brk => exact False.elim hq
    | cont => exact False.elim hq
theorem me_call {f : Str} {a : Addr} {fd : FuncData} {ps ks : List Str} {k : Nat} {es : List Expr} {kws : List Keyword} {p pos : Pos} {rs rk : Env' → MH → Res (List PV)} {b : List PV → MH → Res PV} {cl : List PV → List PV → MH → Res PV}
    (D : DefK (kx X) f a fd ps) (F : FnG X.prog X.w X.K X.mg X.base (L2.CX X.prog X.w) k a fd ps (spF exc (kx X) ps.length b)) (hgd : X.A.guards = some []) (hr : Room k X.A) (tk : Takes X W) (hg : Gl X f) (hdb : (f == ("__debug__" : Str)) = false)
    (hns : nostar es = true) (hkw : kws.map (·.arg) = ks.map some) (ha : PA X es (tA exc (kx X) W rs)) (hk : PK X kws (tA exc (kx X) W rk))
    (h0 : es = [] → ∀ ρ h, rs ρ h = .ok [] h) (hcl : ∀ xs ys h, cl xs ys h = match argsOf ps xs ks ys with | none => .stuck | some as => b as h) :
    PE X (.Call (.Name f p) es kws pos) (tE exc (kx X) W fun ρ h => (rs ρ h).bind fun xs h => (rk ρ h).bind fun ys h => cl xs ys h) := by
  refine ⟨fun pins s σ H Q I q => ?_⟩
  obtain ⟨Z, G, ι, h, ρ, R, S, p0⟩ := q
  obtain ⟨hall, hno, hks⟩ := kw_names (pos := pos) (env := X.env) hkw
  refine wpAny_Call_Name_kw (ld_glob I hg D.mg ?_ hdb)
  -- what stands behind the arguments
  have fin : ∀ {s2 : Shared} {H2 : Hp} {Z : List Addr} {G2 : Hp} {ι2 : List Addr} {h2 : MH} {xs ys : List PV} {vs zs : List V} {us ws : List Value}, Inv X pins σ H2 s2 → HR (kx X) Z G2 ι2 h2 H2 → RVs (kx X) G2 ι2 xs vs → RVs (kx X) G2 ι2 ys zs → Vals vs us → Vals zs ws →
      RP exc (kx X) (rV (kx X)) Z G2 ι2 H2 (cl xs ys h2) Q (fun cls d H' => W cls d σ H') → PySem.W.Frag.In X.K s2.heap ∧ wpAny (model X.prog X.w) X.A (PySem.call (.ref a) us (ks.zip ws)) (EP X pins σ Q) X.xe s2 := by
    intro s2 H2 Z G2 ι2 h2 xs ys vs zs us ws I2 R2 rx ry vx vy p2
    refine ⟨I2.kIn, ?_⟩
    rw [hcl] at p2
    cases e : argsOf ps xs ks ys with
    | none => rw [e] at p2; exact p2.elim
    | some as =>
      rw [e] at p2
      obtain ⟨bs, e2, pr⟩ := args_rel (rvs_paired rx vx) (rvs_paired ry vy) e
      obtain ⟨va, q1, q2⟩ := paired_rvs pr
      have hlen : as.length = ps.length := by
        obtain ⟨q, _⟩ := args_looks D.nd e
        have : ∀ {kv : List (Str × PV)} {ps : List Str} {as : List PV}, looks kv ps = some as → as.length = ps.length := by
          intro kv ps
          induction ps with
          | nil => intro as h; simp [looks] at h; subst h; rfl
          | cons p ps ih =>
            intro as h
            unfold looks at h
            split at h
            · rename_i z _ _ e2
              cases h
              rw [List.length_cons, List.length_cons, ih e2]
            · cases h
        exact this q
      exact run_fnM F hgd hr (.of_eq (binds_all D.po D.ko D.va D.ka D.df D.nm D.nd e2)) (passAt tk σ) I2 q2 ⟨Z, G2, ι2, h2, as, hlen, R2, q1, p2⟩
  -- the keywords
  have kws_run : ∀ {s1 : Shared} {H1 : Hp} {G1 : Hp} {ι1 : List Addr} {h1 : MH} {xs : List PV} {vs : List V} {us : List Value}, Inv X pins σ H1 s1 → Nx (kx X) Z G ι H G1 ι1 h1 H1 → RVs (kx X) G1 ι1 xs vs → Vals vs us →
      RP exc (kx X) (rV (kx X)) Z G1 ι1 H1 ((rk ρ h1).bind fun ys h => cl xs ys h) Q (fun cls d H' => W cls d σ H') →
      wpAny (model X.prog X.w) X.A (evalAll ((backToKw pos (keywordEach kws X.env)).map (·.2))) (fun ws s2 => PySem.W.Frag.In X.K s2.heap ∧ wpAny (model X.prog X.w) X.A (PySem.call (.ref a) us (((backToKw pos (keywordEach kws X.env)).filterMap (·.1)).zip ws)) (EP X pins σ Q) X.xe s2) X.xe s1 := by
    intro s1 H1 G1 ι1 h1 xs vs us I1 n1 rx vx p1
    have hrun := hk.run pos pins s1 σ H1 (fun zs H2 => ∃ G2 ι2 h2 ys, Nx (kx X) Z G1 ι1 H1 G2 ι2 h2 H2 ∧ RVs (kx X) G2 ι2 ys zs ∧ RP exc (kx X) (rV (kx X)) Z G2 ι2 H2 (cl xs ys h2) Q (fun cls d H' => W cls d σ H')) I1
      ⟨Z, G1, ι1, h1, ρ, n1.hr, S.mono n1.same n1.pre, p1.bind fun ys h2 G2 ι2 H2 zs n2 ry p2 => ⟨G2, ι2, h2, ys, n2, ry, p2⟩⟩
    refine thn hrun fun ws s2 ⟨zs, H2, I2, rz, G2, ι2, h2, ys, n2, ry, p2⟩ => ?_
    rw [hks]
    exact fin I2 n2.hr (rx.mono n2.same n2.pre) ry vx rz p2
  have args_run := fun (pos : Pos) => ha.run pos pins s σ H (fun vs H1 => ∃ G1 ι1 h1 xs, Nx (kx X) Z G ι H G1 ι1 h1 H1 ∧ RVs (kx X) G1 ι1 xs vs ∧ RP exc (kx X) (rV (kx X)) Z G1 ι1 H1 ((rk ρ h1).bind fun ys h => cl xs ys h) Q (fun cls d H' => W cls d σ H')) I
    ⟨Z, G, ι, h, ρ, R, S, p0.bind fun xs h1 G1 ι1 H1 vs n1 rx p1 => ⟨G1, ι1, h1, xs, n1, rx, p1⟩⟩
  have hplain : ((backTo pos (starEach es X.env)).any (·.1) || (backToKw pos (keywordEach kws X.env)).any (·.1.isNone)) = false := by rw [nostar_any hns, hno]; rfl
  refine PySem.W.callWith_of hplain (PySem.W.keeps_K D.keep) ?_
  cases es with
  | nil =>
    refine evalArgs_kw2_nil hall ?_
    dsimp only at p0
    rw [h0 rfl] at p0
    exact kws_run (us := []) I (Nx.refl R) .nil .nil p0
  | cons e es =>
    obtain ⟨he, _⟩ := nostar_at hns X.env
    refine evalArgs_kw2 hall ?_ he
    exact thn (args_run pos) fun us s1 ⟨vs, H1, I1, r1, G1, ι1, h1, xs, n1, rx, p1⟩ => kws_run I1 n1 rx r1 p1
end
end Mx

end

section
set_option Elab.async false
set_option Elab.async false
set_option linter.all false
set_option maxRecDepth 100000
set_option maxHeartbeats 4000000
/-! Starred displays, xs[::-1], dict displays, dict(zip(..)), defs as values. -/
namespace Mx
open PySem PySem.Spec PyProof.Rows L2
section
variable {X : Cx} {exc : List Str} {W : WX} {e : Expr} {es : List Expr} {p pos : Pos} {r : Env' → MH → Res PV} {rs : Env' → MH → Res (List PV)}
theorem me_star (ha : PE X e (tE exc (kx X) W r)) (hr : PA X es (tA exc (kx X) W rs)) :
    PA X (.Starred e p :: es) (tA exc (kx X) W fun ρ h => (r ρ h).bind fun x h => match items h x with
      | some ys => (rs ρ h).bind fun xs h => .ok (ys ++ xs) h
      | none => .stuck) := by
  refine (StX.pa_star ha hr).weak fun σ H Q q => ?_
  obtain ⟨Z, G, ι, h, ρ, R, S, p⟩ := q
  refine ⟨Z, G, ι, h, ρ, R, S, p.bind fun x h1 G1 ι1 H1 vx n1 rx p1 => ?_⟩
  split at p1
  · rename_i ys e1
    obtain ⟨a, vs, rfl, hq, rys⟩ := (items_of n1.hr rx e1).sq
    refine ⟨a, vs, rfl, hq.symm, Z, G1, ι1, h1, ρ, n1.hr, S.mono n1.same n1.pre, p1.bind fun xs h2 G2 ι2 H2 ws n2 rxs p2 => ?_⟩
    exact RP.ok_here p2 n2.hr ((rys.mono n2.same n2.pre).append rxs)
  · exact p1.elim
theorem me_tupS {k} (ha : PA X es (tA exc (kx X) W rs)) : PE X (.Tuple es k pos) (tE exc (kx X) W fun ρ h => (rs ρ h).bind fun xs h => if xs.length ≤ sizeLine then .ok (.tup xs) h else .stuck) := by
  refine (pe_tupN ha).weak fun σ H Q q => ?_
  obtain ⟨Z, G, ι, h, ρ, R, S, p⟩ := q
  refine ⟨Z, G, ι, h, ρ, R, S, p.bind fun xs h1 G1 ι1 H1 vs n1 rv p1 => ?_⟩
  split at p1
  · rename_i hz
    exact ⟨by rw [← rv.length]; exact hz, mk_tup n1.hr rv p1⟩
  · exact p1.elim
theorem me_lstS {b : Bool} (ha : PA X es (tA exc (kx X) W rs)) : PE X (.List es pos) (tE exc (kx X) W fun ρ h => (rs ρ h).bind fun xs h => if xs.length ≤ sizeLine then mkLst b xs h else .stuck) := by
  refine (pe_lst ha).weak fun σ H Q q => ?_
  obtain ⟨Z, G, ι, h, ρ, R, S, p⟩ := q
  refine ⟨Z, G, ι, h, ρ, R, S, p.bind fun xs h1 G1 ι1 H1 vs n1 rv p1 => ?_⟩
  split at p1
  · rename_i hz
    exact ⟨by rw [← rv.length]; exact hz, mk_lst n1.hr rv p1⟩
  · exact p1.elim
theorem me_rev {b : Bool} {k : Nat} {p1 p2 p3 : Pos} (ha : PE X e (tE exc (kx X) W r)) : PE X (.Subscript e (.Slice none none (some (.UnaryOp .USub (.Constant (.int 1) k p1) p2)) p3) pos) (tE exc (kx X) W fun ρ h => (r ρ h).bind fun x h => revop b x h) := by
  refine (pe_rev2 ha).weak fun σ H Q q => ?_
  obtain ⟨Z, G, ι, h, ρ, R, S, p⟩ := q
  refine ⟨Z, G, ι, h, ρ, R, S, p.bind fun x h1 G1 ι1 H1 vx n1 rx p1 => ?_⟩
  unfold revop at p1
  split at p1
  · obtain ⟨a, vs, rfl, hs, rvs⟩ := rx.tup_inv
    exact ⟨a, vs, rfl, .inr ⟨Same.seqT n1.hr.sub hs.sqT, mk_tup n1.hr rvs.reverse p1⟩⟩
  · split at p1
    · rename_i xs e1
      obtain ⟨a, vs, rfl, hd, rvs⟩ := litems_of n1.hr rx e1
      exact ⟨a, vs, rfl, .inl ⟨.inl hd, mk_lst n1.hr rvs.reverse p1⟩⟩
    · exact p1.elim
theorem me_dz {e2 : Expr} {p1 p2 p3 : Pos} {g z : Str} {r2 : Env' → MH → Res PV} (hgn : g = ("dict" : Str)) (hzn : z = ("zip" : Str)) (hc : X.calm = true) (hgD : Gl X g) (hmD : X.mg g = none) (hgZ : Gl X z) (hmZ : X.mg z = none) (ha : PE X e (tE exc (kx X) W r)) (hb : PE X e2 (tE exc (kx X) W r2))
    (hs : starEach [e, e2] X.env = [(false, eval e X.env), (false, eval e2 X.env)]) (hs2 : starEach [e2] X.env = [(false, eval e2 X.env)]) :
    PE X (.Call (.Name g p1) [.Call (.Name z p2) [e, e2] [] p3] [] pos) (tE exc (kx X) W fun ρ h => (r ρ h).bind fun x h => (r2 ρ h).bind fun y h => dzipop x y h) := by
  refine (pe_dz hgn hzn hc hgD hmD hgZ hmZ (pa_cons ha (pa_cons hb pa_nil (by rw [hs2]; rfl)) (by rw [hs, hs2])) (by rw [hs, hs2]) (by rw [hs2]; rfl)).weak fun σ H Q q => ?_
  obtain ⟨Z, G, ι, h, ρ, R, S, p⟩ := q
  refine ⟨Z, G, ι, h, ρ, R, S, p.bind fun x h1 G1 ι1 H1 vx n1 rx p1 => ?_⟩
  refine ⟨Z, G1, ι1, h1, ρ, n1.hr, S.mono n1.same n1.pre, p1.bind fun y h2 G2 ι2 H2 vy n2 ry p2 => ?_⟩
  exact dz_ok n2.hr (rx.mono n2.same n2.pre) ry p2
theorem me_fnv {f : Str} {a : Addr} (hm : X.mg f = some (.ref a)) (hg : Gl X f) (hd : (f == ("__debug__" : Str)) = false) : PE X (.Name f pos) (tE exc (kx X) W fun _ h => .ok (.fn f) h) :=
  me_con (y := .ref a) hg hm rfl (fun _ _ => .fn hm) hd
/-! ### dict displays -/
/-- pairs' reading -/
def tPs (exc : List Str) (K : Wr) (W : WX) (r : Env' → MH → Res (List (Key × PV))) (σ : L2.St) (H : Hp) (Q : List (V × V) → Hp → Prop) : Prop :=
  ∃ Z G ι h ρ, HR K Z G ι h H ∧ SR K G ι ρ σ ∧ RP exc K (fun G ι (ps : List (Key × PV)) (qs : List (V × V)) => ∃ kvs : List (Key × V), qs = kvs.map (fun kv => (kV kv.1, kv.2)) ∧ RK K G ι ps kvs) Z G ι H (r ρ h) Q (fun cls d H' => W cls d σ H')
structure MPs (X : Cx) (exc : List Str) (W : WX) (pos : Pos) (keys : List (Option Expr)) (values : List Expr) (r : Env' → MH → Res (List (Key × PV))) : Prop where
  run : ∃ trs, PPs X pos keys values trs ∧ ∀ σ H Q, tPs exc (kx X) W r σ H Q → tPairs trs σ H Q
theorem mps_nil : MPs X exc W pos [] [] (fun _ h => .ok [] h) := ⟨[], pps_nil, fun σ H Q q => by
  obtain ⟨Z, G, ι, h, ρ, R, S, p⟩ := q
  exact RP.ok_here p R ⟨[], rfl, .nil⟩⟩
theorem mps_cons {k v : Expr} {ks : List (Option Expr)} {vs : List Expr} {rk rv : Env' → MH → Res PV} {rr : Env' → MH → Res (List (Key × PV))} (hk : PE X k (tE exc (kx X) W rk)) (hv : PE X v (tE exc (kx X) W rv)) (hr : MPs X exc W pos ks vs rr) :
    MPs X exc W pos (some k :: ks) (v :: vs) (fun ρ h => (rk ρ h).bind fun x h => (rv ρ h).bind fun y h => match keyOf x with
      | some j => (rr ρ h).bind fun qs h => .ok ((j, y) :: qs) h
      | none => .stuck) := by
  obtain ⟨trs, P, k'⟩ := hr
  refine ⟨_, pps_cons hk hv P, fun σ H Q q => ?_⟩
  obtain ⟨Z, G, ι, h, ρ, R, S, p⟩ := q
  refine ⟨Z, G, ι, h, ρ, R, S, p.bind fun x h1 G1 ι1 H1 vx n1 rx p1 => ?_⟩
  refine ⟨Z, G1, ι1, h1, ρ, n1.hr, S.mono n1.same n1.pre, p1.bind fun y h2 G2 ι2 H2 vy n2 ry p2 => ?_⟩
  split at p2
  · rename_i j ej
    refine k' σ H2 _ ⟨Z, G2, ι2, h2, ρ, n2.hr, S.mono (n1.same.trans n2.same) (n1.pre.trans n2.pre), p2.bind fun ps h3 G3 ι3 H3 qs n3 rq p3 => ?_⟩
    obtain ⟨kvs, rfl, rk2⟩ := rq
    refine RP.ok_here p3 n3.hr ⟨(j, vy) :: kvs, ?_, .cons ⟨rfl, ry.mono n3.same n3.pre⟩ rk2⟩
    rw [List.map_cons, keyV rx ej]
  · exact p2.elim
theorem me_dnew {keys : List (Option Expr)} {values : List Expr} {rp : Env' → MH → Res (List (Key × PV))} (hP : MPs X exc W pos keys values rp) (hall : keys.all (·.isSome) = true) (hl : keys.length = values.length) (h15 : keys.length ≤ 15) (hlen : ∀ ρ h ps h', rp ρ h = .ok ps h' → ps.length ≤ 15)
    (h0 : keys = [] → values = [] ∧ ∀ ρ h, rp ρ h = .ok [] h) : PE X (.Dict keys values pos) (tE exc (kx X) W fun ρ h => (rp ρ h).bind fun ps h => mkDic (kmerge [] ps) h) := by
  by_cases hk : keys = []
  · obtain ⟨hv, hz⟩ := h0 hk
    subst hk hv
    refine pe_dnewK.weak fun σ H Q q => ?_
    obtain ⟨Z, G, ι, h, ρ, R, S, p⟩ := q
    dsimp only at p
    rw [hz] at p
    exact mk_dic R .nil p
  · obtain ⟨trs, P, k'⟩ := hP
    refine (pe_disp P hall hl hk h15).weak fun σ H Q q => ?_
    obtain ⟨Z, G, ι, h, ρ, R, S, p⟩ := q
    intro D hD
    have hzD : D ∉ Z := R.freshZ hD
    have z0 : ∀ z ∈ Z, upd H D (.dK []) z = H z := fun z hz => upd_ne fun e => hzD (e ▸ hz)
    have R1 := R.make (o := .dK []) hD
    refine k' σ _ _ ⟨D :: Z, G, ι, h, ρ, R1, S, ?_⟩
    have len := hlen ρ h
    dsimp only at p
    generalize rp ρ h = rr at p len
    have pl := p.later (h1 := h) ⟨Up.refl _, Pre.refl _, R1.zless, z0⟩
    cases rr with
    | stuck => exact p
    | exn c v h' =>
      exact ⟨pl.1, fun G' ι' H' C dd x n a b q => pl.2 G' ι' H' C dd x n.zless a b q⟩
    | ok ps h1 =>
      intro G1 ι1 H1 qs n1 rq
      obtain ⟨kvs, rfl, rk2⟩ := rq
      have eD : H1 D = some (.dK []) := (n1.zz D List.mem_cons_self).trans upd_same
      refine ⟨eD, kvs, rfl, by rw [← rk2.length]; exact len ps h1 rfl, ?_⟩
      have p1 := pl.later n1.zless
      have p2 : RP exc (kx X) (rV (kx X)) Z G1 ι1 H1 (.ok (.ref h1.length) (h1 ++ [.dic (kmerge [] ps)])) Q (fun cls d H' => W cls d σ H') := p1
      have R2 := (n1.hr.zput (o := .dK (mergeK [] kvs))).doneR (m := .dic (kmerge [] ps)) (by rw [upd_same]; exact ((rk2.merge .nil).mono (Up.refl _) (Pre.append _ _)).toO) hzD
      refine p2 G1 (ι1 ++ [D]) _ (.ref D) ⟨Up.refl _, Pre.append _ _, R2, fun z hz => upd_ne fun e => hzD (e ▸ hz)⟩ (.ref ?_)
      rw [← n1.hr.len]; simp
/-! ### a call of a def that a name holds -/
theorem me_calv {x : Str} {i : Nat} {hp : Pos} {cl : Calls} {Pf : Str → Option Fn} (hN : X.N[i]? = some x) (hv : Vis X.env.scope x) (hd : (x == ("__debug__" : Str)) = false) (hcd : (x == ("__classdict__" : Str)) = false) (tk : Takes X W) (hgd : X.A.guards = some [])
    (fns : ∀ f, (Pf f).isSome = true → ∃ a fd ps k b, DefK (kx X) f a fd ps ∧ FnG X.prog X.w X.K X.mg X.base (L2.CX X.prog X.w) k a fd ps (spF exc (kx X) ps.length b) ∧ Room k X.A ∧ ∀ xs ks ys h, cl f xs ks ys h = match argsOf ps xs ks ys with | none => .stuck | some as => b as h)
    (hns : nostar es = true) (ha : PA X es (tA exc (kx X) W rs)) (h0 : es = [] → ∀ ρ h, rs ρ h = .ok [] h) :
    PE X (.Call (.Name x hp) es [] pos) (tE exc (kx X) W fun ρ h => match ρ[i]? with
      | some (some (.fn f)) => if (Pf f).isSome = true then (rs ρ h).bind fun xs h => cl f xs [] [] h else .stuck
      | _ => .stuck) := by
  refine ⟨fun pins s σ H Q I q => ?_⟩
  obtain ⟨Z, G, ι, h, ρ, R, S, p0⟩ := q
  dsimp only at p0
  split at p0
  · rename_i f ef
    obtain ⟨v, e2, rv⟩ := S.2 i _ ef
    split at p0
    · rename_i hsome
      refine wpAny_Call_Name_kw (thn ((pe_var (X := X) (pos := hp) hN hv hd hcd).run pins s σ H (fun y H1 => y = v ∧ H1 = H) I ⟨v, e2, rfl, rfl⟩) fun u s1 ⟨y, H1, I1, r1, ey, eH⟩ => ?_)
      subst ey eH
      obtain ⟨a, fd, ps, k, b, D, F, hr, hcl⟩ := fns f hsome
      cases rv with
      | fn hm =>
        have ea := hm.symm.trans D.mg
        cases ea
        obtain rfl : u = Value.ref a := r1
        have fin : ∀ {s2 : Shared} {H2 : Hp} {G2 : Hp} {ι2 : List Addr} {h2 : MH} {xs : List PV} {vs : List V} {us : List Value}, Inv X pins σ H2 s2 → HR (kx X) Z G2 ι2 h2 H2 → RVs (kx X) G2 ι2 xs vs → Vals vs us →
            RP exc (kx X) (rV (kx X)) Z G2 ι2 H2 (cl f xs [] [] h2) Q (fun cls d H' => W cls d σ H') → PySem.W.Frag.In X.K s2.heap ∧ wpAny (model X.prog X.w) X.A (PySem.call (.ref a) us (([] : List Str).zip ([] : List Value))) (EP X pins σ Q) X.xe s2 := by
          intro s2 H2 G2 ι2 h2 xs vs us I2 R2 rx vx p2
          refine ⟨I2.kIn, ?_⟩
          rw [hcl] at p2
          cases e : argsOf ps xs [] ([] : List PV) with
          | none => rw [e] at p2; exact p2.elim
          | some as =>
            rw [e] at p2
            obtain ⟨bs, e2, pr⟩ := args_rel (rvs_paired rx vx) (.nil : Paired (fun x u => ∃ v, RV (kx X) G2 ι2 x v ∧ RelV v u) [] []) e
            obtain ⟨va, q1, q2⟩ := paired_rvs pr
            have hlen : as.length = ps.length := by
              obtain ⟨q, _⟩ := args_looks D.nd e
              have : ∀ {kv : List (Str × PV)} {ps : List Str} {as : List PV}, looks kv ps = some as → as.length = ps.length := by
                intro kv ps
                induction ps with
                | nil => intro as h; simp [looks] at h; subst h; rfl
                | cons p ps ih =>
                  intro as h
                  unfold looks at h
                  split at h
                  · rename_i z _ _ e2
                    cases h
                    rw [List.length_cons, List.length_cons, ih e2]
                  · cases h
              exact this q
            exact run_fnM F hgd hr (.of_eq (binds_all D.po D.ko D.va D.ka D.df D.nm D.nd e2)) (passAt tk σ) I2 q2 ⟨Z, G2, ι2, h2, as, hlen, R2, q1, p2⟩
        have hplain : ((backTo pos (starEach es X.env)).any (·.1) || (backToKw pos (keywordEach [] X.env)).any (·.1.isNone)) = false := by rw [nostar_any hns]; rfl
        refine PySem.W.callWith_of hplain (PySem.W.keeps_K D.keep) ?_
        cases es with
        | nil =>
          refine evalArgs_kw2_nil rfl ?_
          rw [h0 rfl] at p0
          have := fin (us := []) I1 R .nil .nil p0
          exact PyProof.Rows.kwAll_nil this
        | cons e es =>
          obtain ⟨he, _⟩ := nostar_at hns X.env
          refine evalArgs_kw2 rfl ?_ he
          refine thn (ha.run pos pins s1 σ H1 (fun vs H1 => ∃ G1 ι1 h1 xs, HR (kx X) Z G1 ι1 h1 H1 ∧ RVs (kx X) G1 ι1 xs vs ∧ RP exc (kx X) (rV (kx X)) Z G1 ι1 H1 (cl f xs [] [] h1) Q (fun cls d H' => W cls d σ H')) I1
            ⟨Z, G, ι, h, ρ, R, S, p0.bind fun xs h1 G1 ι1 H1 vs n1 rx p1 => ⟨G1, ι1, h1, xs, n1.hr, rx, p1⟩⟩) fun us s2 ⟨vs, H2, I2, r2, G1, ι1, h1, xs, R1, rx, p1⟩ => ?_
          exact PyProof.Rows.kwAll_nil (fin I2 R1 rx r2 p1)
    · exact p0.elim
  · exact p0.elim
end
end Mx

end

section
set_option Elab.async false
set_option Elab.async false
set_option linter.all false
set_option maxRecDepth 100000
set_option maxHeartbeats 4000000
/-! x[lo::step] -/
namespace Mx
open PySem PySem.Spec PyProof.Rows L2
section
variable {X : Cx} {exc : List Str} {W : WX} {e : Expr} {pos : Pos} {r : Env' → MH → Res PV}
theorem RVs.every {K : Wr} {G : Hp} {ι : List Addr} {xs : List PV} {vs : List V} (q : RVs K G ι xs vs) (i st : Nat) : RVs K G ι (everyP i st xs) (takeE i st vs) := by
  have len := q.length
  unfold everyP takeE
  rw [len]
  induction evry i st vs.length with
  | nil => exact .nil
  | cons j is ih =>
    by_cases hj : j < xs.length
    · have hx : xs[j]? = some xs[j] := List.getElem?_eq_getElem hj
      obtain ⟨v, hv, rv⟩ := q.get hx
      rw [List.filterMap_cons, List.filterMap_cons, hx, hv]
      exact .cons rv ih
    · rw [List.filterMap_cons, List.filterMap_cons, List.getElem?_eq_none (by omega), List.getElem?_eq_none (by omega)]
      exact ih
theorem me_sls {b : Bool} {lo : Option Expr} {rl : Env' → MH → Res (Option Int)} {st : Nat} {c : Int} {k : Nat} {p1 p3 : Pos} (hc : c = (st : Int)) (ha : PE X e (tE exc (kx X) W r)) (hl : PO X lo (tOi exc (kx X) W rl)) : PE X (.Subscript e (.Slice lo none (some (.Constant (.int c) k p1)) p3) pos) (tE exc (kx X) W fun ρ h => (r ρ h).bind fun x h => (rl ρ h).bind fun l h => slsop b x l st h) := by
  subst hc
  refine (pe_step ha hl).weak fun σ H Q q => ?_
  obtain ⟨Z, G, ι, h, ρ, R, S, p⟩ := q
  refine ⟨Z, G, ι, h, ρ, R, S, p.bind fun x h1 G1 ι1 H1 vx n1 rx p1 => ?_⟩
  refine ⟨Z, G1, ι1, h1, ρ, n1.hr, S.mono n1.same n1.pre, p1.bind fun l h2 G2 ι2 H2 l' n2 el p2 => ?_⟩
  cases el
  unfold slsop at p2
  split at p2
  · rename_i hh
    have rx2 := rx.mono n2.same n2.pre
    split at p2
    · rename_i xs
      obtain ⟨a, vs, rfl, hs, rvs⟩ := rx2.tup_inv
      exact ⟨a, vs, rfl, hh.1, hh.2.1, .inr ⟨Same.seqT n2.hr.sub hs.sqT, mk_tup n2.hr (rvs.every _ _) p2⟩⟩
    · split at p2
      · rename_i xs e1
        obtain ⟨a, vs, rfl, hd, rvs⟩ := litems_of n2.hr rx2 e1
        exact ⟨a, vs, rfl, hh.1, hh.2.1, .inl ⟨.inl hd, mk_lst n2.hr (rvs.every _ _) p2⟩⟩
      · exact p2.elim
  · exact p2.elim
end
end Mx

end

section
set_option Elab.async false
set_option Elab.async false
set_option linter.all false
set_option maxRecDepth 100000
set_option maxHeartbeats 4000000
/-! What the checker takes runs as the small language says: expressions. -/
namespace Mx
open PySem PySem.Spec PyProof.Rows L2

/-- what holds of a context -/
structure Cg (L : Lk) (P : Pg) (cl : Calls) (W : WX) (X : Cx) : Prop where
  nd : X.N.Nodup
  calm : L.hot = false → X.calm = true
  gd : X.A.guards = some []
  un : X.A.units + 64 < cLine
  un5 : X.A.units + 65 < cLine
  free : ∀ x ∈ L.fr, X.mg x = none
  gcd : L.gcd = true → X.mg "gcd" = some (.builtin "math.gcd")
  con : ∀ x ∈ L.cons, ∃ v u y, P.con x = some v ∧ X.mg x = some u ∧ RelV y u ∧ ∀ G ι, RV (kx X) G ι v y
  tk : Takes X W
  fns : L.hot = false → ∀ f ∈ L.fns, ∃ a fd ps k b, DefK (kx X) f a fd ps ∧ FnG X.prog X.w X.K X.mg X.base (L2.CX X.prog X.w) k a fd ps (spF P.exc (kx X) ps.length b) ∧ Room k X.A ∧
    ∀ xs ks ys h, cl f xs ks ys h = match argsOf ps xs ks ys with | none => .stuck | some as => b as h
  fnd : ∀ f, (P.fns f).isSome = true → f ∈ L.fns
  xf : ∀ c ∈ P.exc, ∀ C, X.mg c = some (.ref C) → XfC X.K C ∧ PySem.W.findIn X.K (.ref C) "value" = some none
section
variable {L : Lk} {P : Pg} {cl : Calls} {W : WX} {X : Cx}
theorem Cg.blk (C : Cg L P cl W X) (s : Shared) (H : Hp) (scope : Scope) (cenv : Env) (fp : List Addr) : Cg L P cl W0 (X.blk s H scope cenv fp) :=
  ⟨C.nd, C.calm, C.gd, C.un, C.un5, C.free, C.gcd, C.con, takesN, C.fns, C.fnd, C.xf⟩
/-- the forms that are taken -/
def okE : Expr → Bool
  | .Name _ _ | .Constant _ _ _ | .Tuple _ _ _ | .List _ _ | .BinOp _ _ _ _ | .UnaryOp _ _ _ | .Compare _ _ _ _ | .BoolOp _ _ _ | .IfExp _ _ _ _ | .Subscript _ _ _ | .Call _ _ _ _ | .ListComp _ _ _ _ | .Attribute _ _ _ | .Dict _ _ _ | .DictComp _ _ _ _ _ => true
  | _ => false
theorem mE_ok {N : List Str} {sc : Scope} {a : Ae} {e : Expr} (h : mE L N sc a e = true) : okE e = true := by
  cases e <;> first | rfl | (cases a <;> cases h)
theorem ok_star {e : Expr} (h : okE e = true) (es : List Expr) (env : Env) : starEach (e :: es) env = (false, eval e env) :: starEach es env := by
  cases e <;> first | rfl | cases h
theorem ok_nostar {e : Expr} {es : List Expr} (h : okE e = true) (h' : nostar es = true) : nostar (e :: es) = true := by
  cases e <;> first | exact h' | cases h
theorem ok_set {e : Expr} (h : okE e = true) : isSet e = false := by cases e <;> first | rfl | cases h
theorem ok_slice {e : Expr} (h : okE e = true) : isSlice e = false := by cases e <;> first | rfl | cases h
theorem ok_fold {e : Expr} (h : okE e = true) (env : Env) : ∀ x, foldedSetIterable e env x = pure x := by
  intro x
  cases e <;> first | rfl | cases h
theorem mI_fold {N : List Str} {sc : Scope} {tg : Expr} {a : Ai} {e : Expr} (h : mI L N sc tg a e = true) (env : Env) : ∀ x, foldedSetIterable e env x = pure x := by
  cases a with
  | ex a => exact ok_fold (mE_ok (show mE L N sc a e = true from h)) env
  | _ =>
    intro x
    cases e <;> first | rfl | cases h
theorem mEs_nostar {N : List Str} {sc : Scope} : ∀ {as : Aes} {es : List Expr}, mEs L N sc as es = true → nostar es = true
  | .nil, [], _ => rfl
  | .nil, _ :: _, h => by cases h
  | .cons _ _, [], h => by cases h
  | .star _ _, [], h => by cases h
  | .star _ _, _ :: _, h => by cases h
  | .cons a as, e :: es, h => by
    unfold mEs at h
    rw [Bool.and_eq_true] at h
    exact ok_nostar (mE_ok h.1) (mEs_nostar h.2)
theorem mEs_nil {N : List Str} {sc : Scope} {as : Aes} (h : mEs L N sc as [] = true) : as = .nil := by
  cases as with
  | nil => rfl
  | cons _ _ => cases h
  | star _ _ => cases h
theorem mEs_len {N : List Str} {sc : Scope} : ∀ {as : Aes} {es : List Expr}, mEs L N sc as es = true → as.len = es.length
  | .nil, [], _ => rfl
  | .nil, _ :: _, h => by cases h
  | .cons _ _, [], h => by cases h
  | .star _ _, [], h => by cases h
  | .star _ _, _ :: _, h => by cases h
  | .cons a as, e :: es, h => by
    unfold mEs at h
    rw [Bool.and_eq_true] at h
    unfold Aes.len
    rw [mEs_len h.2, List.length_cons]
theorem bind_ok {α β : Type} {r : Res α} {f : α → MH → Res β} {b : β} {h : MH} (e : r.bind f = .ok b h) : ∃ a h1, r = .ok a h1 ∧ f a h1 = .ok b h := by
  cases r with
  | ok a h1 => exact ⟨a, h1, rfl, e⟩
  | exn _ _ _ => cases e
  | stuck => cases e
theorem evs_len {N : List Str} {sc : Scope} : ∀ {as : Aes} {es : List Expr} {ρ : Env'} {h : MH} {xs : List PV} {h' : MH}, mEs L N sc as es = true → evs P cl as ρ h = .ok xs h' → xs.length = as.len
  | .nil, _, ρ, h, xs, h', _, e => by
    unfold evs at e
    cases e; rfl
  | .star _ _, es, ρ, h, xs, h', hm, _ => by cases es <;> cases hm
  | .cons a as, [], ρ, h, xs, h', hm, e => by cases hm
  | .cons a as, _ :: _, ρ, h, xs, h', hm, e => by
    unfold mEs at hm
    rw [Bool.and_eq_true] at hm
    unfold evs at e
    obtain ⟨x, h1, e1, e2⟩ := bind_ok e
    obtain ⟨ys, h2, e3, e4⟩ := bind_ok e2
    cases e4
    rw [List.length_cons, evs_len hm.2 e3]
    rfl
theorem evD_len : ∀ {ps : Aps} {ρ : Env'} {h : MH} {xs : List (Key × PV)} {h' : MH}, evD P cl ps ρ h = .ok xs h' → xs.length = ps.len
  | .nil, ρ, h, xs, h', e => by
    unfold evD at e
    cases e; rfl
  | .cons k v ps, ρ, h, xs, h', e => by
    unfold evD at e
    obtain ⟨x, h1, e1, e2⟩ := bind_ok e
    obtain ⟨y, h2, e3, e4⟩ := bind_ok e2
    split at e4
    · obtain ⟨qs, h3, e5, e6⟩ := bind_ok e4
      cases e6
      rw [List.length_cons, evD_len e5]
      rfl
    · cases e4
theorem mKD_len {N : List Str} {sc : Scope} : ∀ {ps : Aps} {ks : List (Option Expr)} {vs : List Expr}, mKD L N sc ps ks vs = true → ks.length = vs.length ∧ ps.len = ks.length ∧ ks.all (·.isSome) = true
  | .nil, [], [], _ => ⟨rfl, rfl, rfl⟩
  | .nil, [], _ :: _, h => by cases h
  | .nil, _ :: _, _, h => by cases h
  | .cons _ _ _, [], _, h => by cases h
  | .cons _ _ _, none :: _, _, h => by cases h
  | .cons _ _ _, some _ :: _, [], h => by cases h
  | .cons k v ps, some x :: xs, y :: ys, h => by
    unfold mKD at h
    simp only [Bool.and_eq_true] at h
    obtain ⟨h1, h2, h3⟩ := mKD_len h.2
    refine ⟨by rw [List.length_cons, List.length_cons, h1], ?_, by rw [List.all_cons, h3]; rfl⟩
    unfold Aps.len
    rw [h2, List.length_cons]
theorem kw_of {N : List Str} {sc : Scope} : ∀ {ks : List Str} {as : Aes} {kws : List Keyword}, mKs L N sc ks as kws = true → kws.map (·.arg) = ks.map some
  | [], .nil, [], _ => rfl
  | [], .nil, _ :: _, h => by cases h
  | [], .cons _ _, _, h => by cases h
  | [], .star _ _, _, h => by cases h
  | _ :: _, .nil, _, h => by cases h
  | _ :: _, .star _ _, ks, h => by cases ks <;> cases h
  | _ :: _, .cons _ _, [], h => by cases h
  | k :: ks, .cons a as, ⟨n, e, p⟩ :: kws, h => by
    cases n with
    | none => cases h
    | some n =>
      unfold mKs at h
      simp only [Bool.and_eq_true, decide_eq_true_eq] at h
      obtain ⟨⟨rfl, _⟩, h2⟩ := h
      rw [List.map_cons, List.map_cons, kw_of h2]
theorem fr_of {x : Str} (C : Cg L P cl W X) (h : L.fr.contains x = true) : X.mg x = none := C.free x (List.contains_iff_mem.mp h)
theorem free_of {x : Str} (C : Cg L P cl W X) (h : freeB L X.env.scope x = true) : Gl X x ∧ (x == ("__debug__" : Str)) = false ∧ X.mg x = none := by
  unfold freeB at h
  rw [Bool.and_eq_true] at h
  exact ⟨(gl_of h.1).1, (gl_of h.1).2, fr_of C h.2⟩
theorem mk_nil : PK X [] (tA exc (kx X) W fun _ h => .ok [] h) := pk_nil.weak fun σ H Q q => by
  obtain ⟨Z, G, ι, h, ρ, R, S, p⟩ := q
  exact RP.ok_here p R .nil
theorem mk_cons {exc : List Str} {e : Expr} {nm : Option Str} {kp : Pos} {kws : List Keyword} {r : Env' → MH → Res PV} {rs : Env' → MH → Res (List PV)} (ha : PE X e (tE exc (kx X) W r)) (hr : PK X kws (tA exc (kx X) W rs)) :
    PK X (⟨nm, e, kp⟩ :: kws) (tA exc (kx X) W fun ρ h => (r ρ h).bind fun x h => (rs ρ h).bind fun xs h => .ok (x :: xs) h) := by
  refine (pk_cons ha hr).weak fun σ H Q q => ?_
  obtain ⟨Z, G, ι, h, ρ, R, S, p⟩ := q
  refine ⟨Z, G, ι, h, ρ, R, S, p.bind fun x h1 G1 ι1 H1 vx n1 rx p1 => ?_⟩
  refine ⟨Z, G1, ι1, h1, ρ, n1.hr, S.mono n1.same n1.pre, p1.bind fun y h2 G2 ι2 H2 vy n2 ry p2 => ?_⟩
  exact RP.ok_here p2 n2.hr (.cons (rx.mono n2.same n2.pre) ry)
/-- the value of a caught exception -/
theorem me_val {i : Nat} {x : Str} {p pos : Pos} (C : Cg L P cl W X) (hN : X.N[i]? = some x) (hv : Vis X.env.scope x) (hd : (x == ("__debug__" : Str)) = false) (hcd : (x == ("__classdict__" : Str)) = false) :
    PE X (.Attribute (.Name x p) "value" pos) (tE P.exc (kx X) W (ev P cl (.val i))) := by
  refine ⟨fun pins s σ H Q I q => ?_⟩
  obtain ⟨Z, G, ι, h, ρ, R, S, q⟩ := q
  unfold ev at q
  split at q
  · rename_i c v e
    split at q
    · rename_i hc
      obtain ⟨w, e2, rw2⟩ := S.2 i _ e
      refine attr_of rfl (thn ((pe_var (X := X) (pos := p) hN hv hd hcd).run pins s σ H (fun y H1 => y = w ∧ H1 = H) I ⟨w, e2, rfl, rfl⟩) fun u s1 ⟨y, H1, I1, r1, ey, eH⟩ => ?_)
      subst ey eH
      cases rw2 with
      | @exn a C' dd _ _ vv hm h1 h2 r =>
        obtain rfl : u = Value.ref a := r1
        obtain ⟨T, hno⟩ := C.xf c (List.contains_iff_mem.mp hc) C' hm
        obtain ⟨⟨oe, vs, ha, hcls, hdict, hdat⟩, _, _⟩ := I1.hok a _ (R.sub _ _ h1)
        have hx : ObjOk X.prog X.w H1 s1.heap dd (.xd [(("value" : Str), vv)]) := I1.hok dd _ (R.sub _ _ h2)
        obtain ⟨mA, hns, hr⟩ := hx
        obtain ⟨od, ho, hl⟩ := lookIn_ns hns
        obtain ⟨u, hu, ru⟩ := RelO.some_of (v := vv) (o := mA "value") (hr "value")
        have J : PySem.W.InstAt s1.heap a oe C' (some od) := ⟨ha, hcls, by unfold PySem.W.notCls; rw [hdat] <;> rfl, by rw [hdict]; exact ho⟩
        exact HandSPX.exc_get I1.kIn J T.ga T.gg T.exC (PySem.W.findObj_own T.hdC hno rfl (by rw [hl, hu])) (handed_of ru) ⟨vv, H1, I1.tok _, ru, RP.ok_here q R r⟩
    · exact q.elim
  · exact q.elim
theorem stuck_e {exc : List Str} {K : Wr} {e : Expr} : PE X e (tE exc K W fun _ _ => .stuck) := ⟨fun _ _ _ _ _ _ q => by
  obtain ⟨Z, G, ι, h, ρ, R, S, q⟩ := q
  exact q.elim⟩
theorem stuck_w {exc : List Str} {K : Wr} {e : Expr} : PW X e (tT exc K W (truR fun _ _ => .stuck)) := ⟨fun _ _ _ _ _ _ _ q => by
  obtain ⟨Z, G, ι, h, ρ, R, S, q⟩ := q
  exact q.elim⟩
end
end Mx

end

section
set_option Elab.async false
set_option Elab.async false
set_option linter.all false
set_option maxRecDepth 100000
set_option maxHeartbeats 8000000
/-! What the checker takes runs as the small language says: expressions, all forms. -/
namespace Mx
open PySem PySem.Spec PyProof.Rows L2
section
variable {L : Lk} {P : Pg} {cl : Calls}
theorem both {exc : List Str} {W : WX} {X : Cx} {e : Expr} {r : Env' → MH → Res PV} (h : PE X e (tE exc (kx X) W r)) (he : ∀ whole, isTrue e X.env whole = (do let v ← whole; standAt e.pos; holding [v] (PySem.truthy v))) : PE X e (tE exc (kx X) W r) ∧ PT X e (tT exc (kx X) W (truR r)) := ⟨h, mt_plain h he⟩
theorem noSp {x : Str} (h : noSpecial x = true) : (x == ("__debug__" : Str)) = false ∧ (x == ("__classdict__" : Str)) = false := by
  unfold noSpecial at h
  simpa using h
theorem tys_of {sc : Scope} {N : List Str} {X : Cx} {W : WX} (C : Cg L P cl W X) : ∀ {ts : List String} {es : List Expr}, tyEs L X.env.scope ts es = true → (∀ u ∈ ts, u ∈ askT) ∧ Paired (fun t e => PE X e (tC (.ty t)) ∧ ∀ es', starEach (e :: es') X.env = (false, eval e X.env) :: starEach es' X.env) ts es
  | [], [], _ => ⟨fun _ h => absurd h List.not_mem_nil, .nil⟩
  | [], _ :: _, h => by cases h
  | _ :: _, [], h => by cases h
  | t :: ts, e :: es, h => by
    unfold tyEs at h
    rw [Bool.and_eq_true] at h
    obtain ⟨h1, h2⟩ := h
    obtain ⟨q1, q2⟩ := tys_of (sc := sc) (N := N) C h2
    cases e <;> try (cases h1; done)
    rename_i x p
    simp only [tyE, Bool.and_eq_true, beq_iff_eq] at h1
    obtain ⟨⟨e1, e2⟩, e3⟩ := h1
    obtain ⟨g1, g2, g3⟩ := free_of C e2
    have hm : t ∈ askT := List.contains_iff_mem.mp e3
    refine ⟨fun u hu => ?_, .cons ⟨me_type e1 hm g1 g3, fun es' => rfl⟩ q2⟩
    rcases List.mem_cons.mp hu with rfl | hu
    · exact hm
    · exact q1 u hu
mutual
theorem sX : ∀ (a : Ae) {W : WX} {X : Cx} (C : Cg L P cl W X) {e : Expr}, mE L X.N X.env.scope a e = true → PE X e (tE P.exc (kx X) W (ev P cl a)) ∧ PT X e (tT P.exc (kx X) W (truR (ev P cl a)))
  | .v i, W, X, C, e, hm => by
    cases e <;> try (cases hm; done)
    simp only [mE, Bool.and_eq_true, decide_eq_true_eq] at hm
    obtain ⟨⟨h1, h2⟩, h3⟩ := hm
    exact both (me_var h1 (vis_of h2) (noSp h3).1 (noSp h3).2) fun _ => rfl
  | .non, W, X, C, e, hm => by
    cases e <;> try (cases hm; done)
    rename_i c k p
    cases c <;> try (cases hm; done)
    exact both me_non fun _ => rfl
  | .bl b, W, X, C, e, hm => by
    cases e <;> try (cases hm; done)
    rename_i c k p
    cases c <;> try (cases hm; done)
    simp only [mE, beq_iff_eq] at hm
    subst hm
    exact both me_bl fun _ => rfl
  | .int i, W, X, C, e, hm => by
    cases e <;> try (cases hm; done)
    rename_i c k p
    cases c <;> try (cases hm; done)
    simp only [mE, decide_eq_true_eq] at hm
    subst hm
    exact both me_int fun _ => rfl
  | .str x, W, X, C, e, hm => by
    cases e <;> try (cases hm; done)
    rename_i c k p
    cases c <;> try (cases hm; done)
    simp only [mE, decide_eq_true_eq] at hm
    subst hm
    exact both me_str fun _ => rfl
  | .con x, W, X, C, e, hm => by
    cases e <;> try (cases hm; done)
    simp only [mE, Bool.and_eq_true, decide_eq_true_eq] at hm
    obtain ⟨⟨rfl, h2⟩, h3⟩ := hm
    obtain ⟨v, u, y, e1, e2, e3, e4⟩ := C.con _ (List.contains_iff_mem.mp h3)
    have e : ev P cl (.con x) = fun _ h => .ok v h := by
      funext ρ h
      unfold ev
      rw [e1]
    rw [e]
    exact both (me_con (gl_of h2).1 e2 e3 e4 (gl_of h2).2) fun _ => rfl
  | .tup es, W, X, C, e, hm => by
    cases e <;> try (cases hm; done)
    simp only [mE, Bool.and_eq_true, decide_eq_true_eq] at hm
    exact both (me_tup (sXs es C hm.1) fun ρ h xs h' e => by rw [evs_len hm.1 e]; exact hm.2) fun _ => rfl
  | .lst r es, W, X, C, e, hm => by
    cases e <;> try (cases hm; done)
    simp only [mE, Bool.and_eq_true, decide_eq_true_eq] at hm
    exact both (me_lst (sXs es C hm.1) fun ρ h xs h' e => by rw [evs_len hm.1 e]; exact hm.2) fun _ => rfl
  | .bin op r a b, W, X, C, e, hm => by
    cases e <;> try (cases hm; done)
    simp only [mE, Bool.and_eq_true] at hm
    exact both (me_bin hm.1.1 (sX a C hm.1.2).1 (sX b C hm.2).1) fun _ => rfl
  | .neg a, W, X, C, e, hm => by
    cases e <;> try (cases hm; done)
    rename_i op x p
    cases op <;> try (cases hm; done)
    exact both (me_neg (sX a C hm).1) fun _ => rfl
  | .not a, W, X, C, e, hm => by
    cases e <;> try (cases hm; done)
    rename_i op x p
    cases op <;> try (cases hm; done)
    have := sX a C hm
    exact ⟨me_not this.1, mt_not this.2⟩
  | .cmp op a b, W, X, C, e, hm => by
    cases e <;> try (cases hm; done)
    rename_i x os ys p
    rcases os with _ | ⟨o, _ | _⟩ <;> try (cases hm; done)
    rcases ys with _ | ⟨y, _ | _⟩ <;> try (cases hm; done)
    simp only [mE, Bool.and_eq_true] at hm
    have ha := (sX a C hm.1.2).1
    have hb := (sX b C hm.2).1
    exact ⟨me_cmp hm.1.1 C.un (ok_set (mE_ok hm.2)) ha hb, mt_cmp hm.1.1 C.un (ok_set (mE_ok hm.2)) ha hb⟩
  | .chain op op' a b c, W, X, C, e, hm => by
    cases e <;> try (cases hm; done)
    rename_i x os ys p
    rcases os with _ | ⟨o, _ | ⟨o', _ | _⟩⟩ <;> try (cases hm; done)
    rcases ys with _ | ⟨y, _ | ⟨z, _ | _⟩⟩ <;> try (cases hm; done)
    simp only [mE, Bool.and_eq_true] at hm
    have ha := (sX a C hm.1.1.2).1
    have hb := (sX b C hm.1.2).1
    have hc := (sX c C hm.2).1
    exact ⟨me_chain hm.1.1.1.1 hm.1.1.1.2 C.un (ok_set (mE_ok hm.1.2)) (ok_set (mE_ok hm.2)) ha hb hc, mt_chain hm.1.1.1.1 hm.1.1.1.2 C.un (ok_set (mE_ok hm.1.2)) (ok_set (mE_ok hm.2)) ha hb hc⟩
  | .and es, W, X, C, e, hm => by
    cases e <;> try (cases hm; done)
    rename_i op xs p
    cases op <;> try (cases hm; done)
    have := sAnd es C (show mEs L X.N X.env.scope es xs = true from hm) p
    exact ⟨this.1, this.2.pt⟩
  | .or es, W, X, C, e, hm => by
    cases e <;> try (cases hm; done)
    rename_i op xs p
    cases op <;> try (cases hm; done)
    have := sOr es C (show mEs L X.N X.env.scope es xs = true from hm) p
    exact ⟨this.1, this.2.pt⟩
  | .ifx c a b, W, X, C, e, hm => by
    cases e <;> try (cases hm; done)
    simp only [mE, Bool.and_eq_true] at hm
    have hc := sX c C hm.1.1
    have ha := sX a C hm.1.2
    have hb := sX b C hm.2
    exact ⟨me_ifx hc.2 ha.1 hb.1, mt_ifx hc.2 ha.2 hb.2⟩
  | .ix a i, W, X, C, e, hm => by
    cases e <;> try (cases hm; done)
    simp only [mE, Bool.and_eq_true] at hm
    exact both (me_ix C.un (ok_slice (mE_ok hm.2)) (sX a C hm.1).1 (sX i C hm.2).1) fun _ => rfl
  | .sl r a lo hi, W, X, C, e, hm => by
    cases e <;> try (cases hm; done)
    rename_i x y p
    cases y <;> try (cases hm; done)
    rename_i l u st p2
    cases st <;> try (cases hm; done)
    simp only [mE, Bool.and_eq_true] at hm
    exact both (me_sl (sX a C hm.1.1).1 (sO lo C hm.1.2) (sO hi C hm.2)) fun _ => rfl
  | .call f es ks kes, W, X, C, e, hm => by
    cases e <;> try (cases hm; done)
    rename_i fn xs kws p
    cases fn <;> try (cases hm; done)
    simp only [mE, Bool.and_eq_true, decide_eq_true_eq, Bool.not_eq_true'] at hm
    obtain ⟨⟨⟨⟨⟨rfl, h2⟩, h3⟩, h4⟩, h5⟩, h6⟩ := hm
    obtain ⟨a, fd, ps, k, b, D, F, hr, hcl⟩ := C.fns h4 _ (List.contains_iff_mem.mp h3)
    exact both (me_call (cl := fun xs ys h => cl f xs ks ys h) D F C.gd hr C.tk (gl_of h2).1 (gl_of h2).2 (mEs_nostar h5) (kw_of h6) (sXs es C h5) (sKs kes C h6) (fun q ρ h => by
      subst q
      rw [mEs_nil h5]; rfl) (fun xs ys h => hcl xs ks ys h)) fun _ => rfl
  | .blt f r es, W, X, C, e, hm => by
    cases e <;> try (cases hm; done)
    rename_i fn xs kws p
    cases fn <;> try (cases hm; done)
    rename_i g gp
    cases kws with
    | cons _ _ => cases hm
    | nil =>
      simp only [mE, Bool.and_eq_true, decide_eq_true_eq, Bool.or_eq_true, Bool.not_eq_true'] at hm
      obtain ⟨⟨⟨⟨⟨h1, h2⟩, h3⟩, h4⟩, h5⟩, h6⟩ := hm
      have hl := mEs_len h5
      cases xs with
      | nil =>
        rw [h6] at hl
        cases f <;> cases hl
      | cons x xs =>
        have hn := nostar_at (mEs_nostar h5) X.env
        refine both ?_ fun _ => rfl
        refine me_blt h1 (gl_of h2).1 (fun q => ?_) C.gd C.un ?_ (sXs es C h5) (gl_of h2).2 hn.1 (nostar_any hn.2)
        · rcases h4 with h4 | h4
          · rw [h4] at q; cases q
          · exact C.calm h4
        · split
          · rename_i ef
            rw [if_pos ef] at h3
            exact C.gcd h3
          · rename_i ef
            rw [if_neg ef] at h3
            exact fr_of C h3
  | .isi a ts, W, X, C, e, hm => by
    cases e <;> try (cases hm; done)
    rename_i fn xs kws p
    cases fn <;> try (cases hm; done)
    rename_i g gp
    cases kws with
    | cons _ _ => rcases xs with _ | ⟨x, _ | ⟨t, _ | _⟩⟩ <;> cases hm
    | nil =>
      rcases xs with _ | ⟨x, _ | ⟨t, _ | _⟩⟩ <;> try (cases hm; done)
      simp only [mE, Bool.and_eq_true, decide_eq_true_eq] at hm
      obtain ⟨⟨⟨h1, h2⟩, h3⟩, h4⟩ := hm
      obtain ⟨g1, g2, g3⟩ := free_of C h2
      have ha := (sX a C h3).1
      have hst := ok_star (mE_ok h3)
      split at h4
      · rename_i t1 nm np
        simp only [tyE, Bool.and_eq_true, beq_iff_eq] at h4
        obtain ⟨⟨e1, e2⟩, e3⟩ := h4
        obtain ⟨k1, k2, k3⟩ := free_of C e2
        have hmem : t1 ∈ askT := List.contains_iff_mem.mp e3
        exact both (me_isi1 h1 g1 g3 hmem ha (me_type e1 hmem k1 k3) (by rw [hst]; rfl) rfl) fun _ => rfl
      · rename_i us k tp _
        simp only [Bool.and_eq_true, decide_eq_true_eq] at h4
        obtain ⟨⟨q1, q2⟩, q3⟩ := h4
        obtain ⟨r1, r2⟩ := tys_of (sc := X.env.scope) (N := X.N) C q1
        exact both (me_isiT h1 g1 g3 r1 q2 ha r2 (by rw [hst]; rfl)) fun _ => rfl
      · cases h4
  | .met m r o es, W, X, C, e, hm => by
    cases e <;> try (cases hm; done)
    rename_i fn xs kws p
    cases fn <;> try (cases hm; done)
    rename_i ox g ap
    cases kws with
    | cons _ _ => cases hm
    | nil =>
      simp only [mE, Bool.and_eq_true, decide_eq_true_eq] at hm
      obtain ⟨⟨⟨⟨⟨h1, h2⟩, h3⟩, h4⟩, h5⟩, h6⟩ := hm
      have hl := mEs_len h4
      have ho := (sX o C h3).1
      refine both ?_ fun _ => rfl
      rcases xs with _ | ⟨y, _ | ⟨y2, _ | ⟨y3, xs⟩⟩⟩
      · rw [mEs_nil h4] at h6 ⊢
        exact me_met0 h1 h6 h2 h5 ho
      · rw [hl] at h6
        have hn := nostar_at (mEs_nostar h4) X.env
        have := me_met1 (m := m) (rs := evs P cl es) C.un5 h1 h6 h2 h5 ho (sXs es C h4) (by rw [hn.1]; rfl) fun ρ h xs h' e => by rw [evs_len h4 e, hl]; rfl
        have e : ev P cl (.met m r o es) = metR m 1 (ev P cl o) (evs P cl es) := by
          funext ρ h
          show (ev P cl o ρ h).bind _ = _
          rw [hl]
          rfl
        rw [e]; exact this
      · rcases es with _ | ⟨a1, _ | ⟨a2, _ | ⟨a3, es⟩ | ⟨a3, es⟩⟩ | ⟨a2, es⟩⟩ | ⟨a1, es⟩ <;> try (cases hl; done)
        · rw [hl] at h6
          simp only [mEs, Bool.and_eq_true] at h4
          have h41 := h4.1
          have h42 := h4.2.1
          have st1 := ok_star (mE_ok h41) [y2] X.env
          have st2 := ok_star (mE_ok h42) [] X.env
          have := me_met2 (m := m) C.un h1 h6 h2 h5 ho (sX a1 C h41).1 (sX a2 C h42).1 (by rw [st1, st2]; rfl) (by rw [st2]; rfl)
          have e : ev P cl (.met m r o (.cons a1 (.cons a2 .nil))) = metR m 2 (ev P cl o) (fun ρ h => (ev P cl a1 ρ h).bind fun x h => (ev P cl a2 ρ h).bind fun z h => .ok [x, z] h) := by
            funext ρ h
            have e1 : evs P cl (.cons a1 (.cons a2 .nil)) = fun ρ h => (ev P cl a1 ρ h).bind fun x h => (ev P cl a2 ρ h).bind fun z h => .ok [x, z] h := by
              funext ρ h
              unfold evs
              congr 1
              funext x h
              unfold evs
              rw [Res.assoc]
              rfl
            show (ev P cl o ρ h).bind _ = _
            rw [e1]
            rfl
          rw [e]; exact this
        · simp [mEs] at h4
        · simp [mEs] at h4
      · exfalso
        rw [hl] at h6
        cases m <;> simp [mtA] at h6
  | .tupS es, W, X, C, e, hm => by
    cases e <;> try (cases hm; done)
    exact both (me_tupS (sSt es C hm)) fun _ => rfl
  | .lstS r es, W, X, C, e, hm => by
    cases e <;> try (cases hm; done)
    exact both (me_lstS (sSt es C hm)) fun _ => rfl
  | .rev r a, W, X, C, e, hm => by
    cases e <;> try (cases hm; done)
    rename_i x sl p
    cases sl <;> try (cases hm; done)
    rename_i lo hi st p2
    cases lo <;> try (cases hm; done)
    cases hi <;> try (cases hm; done)
    cases st <;> try (cases hm; done)
    rename_i st
    cases st <;> try (cases hm; done)
    rename_i op c p3
    cases op <;> try (cases hm; done)
    cases c <;> try (cases hm; done)
    rename_i k kk p4
    cases k <;> try (cases hm; done)
    rename_i k
    by_cases hk : k = 1
    · subst hk
      exact both (me_rev (sX a C hm).1) fun _ => rfl
    · exact absurd hm (by simp [mE, hk])
  | .dnew ps, W, X, C, e, hm => by
    cases e <;> try (cases hm; done)
    simp only [mE, Bool.and_eq_true, decide_eq_true_eq] at hm
    obtain ⟨h1, h2⟩ := hm
    obtain ⟨l1, l2, l3⟩ := mKD_len h1
    refine both (me_dnew (sKD ps C h1) l3 l1 (by rw [← l2]; exact h2) (fun ρ h xs h' e => by rw [evD_len e]; exact h2) fun hk => ?_) fun _ => rfl
    subst hk
    cases ps with
    | nil => exact ⟨List.length_eq_zero_iff.mp l1.symm, fun _ _ => rfl⟩
    | cons _ _ _ => cases h1
  | .dzip a b, W, X, C, e, hm => by
    cases e <;> try (cases hm; done)
    rename_i fn xs kws p
    cases fn <;> try (cases hm; done)
    rename_i g gp
    rcases xs with _ | ⟨z, _ | _⟩ <;> try (cases hm; done)
    · cases z <;> try (cases hm; done)
      rename_i fz xz kz pz
      cases fz <;> try (cases hm; done)
      rename_i gz gzp
      rcases xz with _ | ⟨x, _ | ⟨y, _ | _⟩⟩ <;> try (cases hm; done)
      · cases kz with
        | cons _ _ => cases hm
        | nil => cases kws with
          | cons _ _ => cases hm
          | nil =>
            simp only [mE, Bool.and_eq_true, decide_eq_true_eq, Bool.not_eq_true'] at hm
            obtain ⟨⟨⟨⟨⟨⟨h0, h1⟩, h2⟩, h3⟩, h4⟩, h5⟩, h6⟩ := hm
            obtain ⟨g1, g2, g3⟩ := free_of C h2
            obtain ⟨k1, k2, k3⟩ := free_of C h4
            have st1 := ok_star (mE_ok h5) [y] X.env
            have st2 := ok_star (mE_ok h6) [] X.env
            exact both (me_dz h1 h3 (C.calm h0) g1 g3 k1 k3 (sX a C h5).1 (sX b C h6).1 (by rw [st1, st2]; rfl) (by rw [st2]; rfl)) fun _ => rfl
    · cases z <;> try (cases hm; done)
      rename_i fz xz kz pz
      cases fz <;> try (cases hm; done)
      rcases xz with _ | ⟨x, _ | ⟨y, _ | _⟩⟩ <;> try (cases hm; done)
      all_goals (cases kz <;> cases hm)
  | .fnv f, W, X, C, e, hm => by
    cases e <;> try (cases hm; done)
    simp only [mE, Bool.and_eq_true, decide_eq_true_eq, Bool.not_eq_true'] at hm
    obtain ⟨⟨⟨rfl, h2⟩, h3⟩, h4⟩ := hm
    obtain ⟨a, fd, ps, k, b, D, F, hr, hcl⟩ := C.fns h4 _ (List.contains_iff_mem.mp h3)
    refine both ⟨fun pins s σ H Q I q => (me_fnv (exc := P.exc) (W := W) D.mg (gl_of h2).1 (gl_of h2).2).run pins s σ H Q I ?_⟩ fun _ => rfl
    obtain ⟨Z, G, ι, h, ρ, R, S, p⟩ := q
    refine ⟨Z, G, ι, h, ρ, R, S, ?_⟩
    unfold ev at p
    split at p
    · exact p
    · exact p.elim
  | .calv i es, W, X, C, e, hm => by
    cases e <;> try (cases hm; done)
    rename_i fn xs kws p
    cases fn <;> try (cases hm; done)
    rename_i x xp
    cases kws with
    | cons _ _ => cases hm
    | nil =>
      simp only [mE, Bool.and_eq_true, decide_eq_true_eq, Bool.not_eq_true'] at hm
      obtain ⟨⟨⟨⟨h1, h2⟩, h3⟩, h4⟩, h5⟩ := hm
      refine both (me_calv (Pf := P.fns) h1 (vis_of h2) (noSp h3).1 (noSp h3).2 C.tk C.gd (fun f hf => ?_) (mEs_nostar h5) (sXs es C h5) (fun q ρ h => by
        subst q
        rw [mEs_nil h5]; rfl)) fun _ => rfl
      exact C.fns h4 f (C.fnd f hf)
  | .comp r elt g it ifs own, W, X, C, e, hm => by
    cases e <;> try (cases hm; done)
    rename_i ex gens scope p
    rcases gens with _ | ⟨⟨tg, iter, fs, asy⟩, _ | _⟩
    · cases hm
    · by_cases hz : asy = 0
      · subst hz
        simp only [mE, Bool.and_eq_true, decide_eq_true_eq, Bool.not_eq_true'] at hm
        obtain ⟨⟨⟨⟨⟨⟨h0, h1⟩, h2⟩, h3⟩, h4⟩, h5⟩, h6⟩ := hm
        have hc := C.calm h0
        refine both (me_comp (rt := evIfs P cl ifs) hc C.nd (sI (tg := tg) it C h3).1 (blkOk_by h1) h2 (fun s H C' cls fp => ?_) (fun s H C' cls fp => ?_) (fun s H C' cls fp => ?_) (sI (tg := tg) it C h3).2) fun _ => rfl
        · exact sG (X := X.blk s H scope (compEnvC scope cls C' X.env) fp) hc C.nd (fun x hx => hx) h4
        · exact sIfs ifs (C.blk s H scope (compEnvC scope cls C' X.env) fp) h5
        · exact (sX elt (C.blk s H scope (compEnvC scope cls C' X.env) fp) h6).1
      · exact absurd hm (by simp [mE, hz])
    · exact absurd hm (by simp [mE])
  | .comp2 r elt g it g2 it2 own vs2, W, X, C, e, hm => by
    cases e <;> try (cases hm; done)
    rename_i ex gens scope p
    rcases gens with _ | ⟨⟨tg, iter, fs, asy⟩, _ | ⟨⟨tg2, iter2, fs2, asy2⟩, _ | _⟩⟩
    · cases hm
    · rcases fs with _ | _ <;> exact absurd hm (by simp [mE])
    · rcases fs with _ | _
      · rcases fs2 with _ | _
        · by_cases hz : asy = 0
          · by_cases hz2 : asy2 = 0
            · subst hz; subst hz2
              simp only [mE, Bool.and_eq_true, decide_eq_true_eq, Bool.not_eq_true'] at hm
              obtain ⟨⟨⟨⟨⟨⟨⟨⟨⟨⟨h0, h1⟩, h2⟩, h3⟩, h4⟩, h5⟩, h6⟩, h7⟩, h8⟩, h9⟩, h10⟩ := hm
              have hc := C.calm h0
              refine both (me_comp2 (r := r) hc C.nd (sI (tg := tg) it C h6).1 (blkOk_by h1) h2 h3 h4 (fun s H C' cls fp => ?_) (fun s H C' cls fp => ?_) (fun s H C' cls fp => ?_) (fun s H C' cls fp => ?_) (sI (tg := tg) it C h6).2 (mI_fold h8)) fun _ => rfl
              · exact sG (X := X.blk s H scope (compEnvC scope cls C' X.env) fp) hc C.nd (fun x hx => hx) h7
              · exact (sI (tg := tg2) it2 (C.blk s H scope (compEnvC scope cls C' X.env) fp) h8).1
              · exact sG (X := X.blk s H scope (compEnvC scope cls C' X.env) fp) hc C.nd (fun x hx => hx) h9
              · exact (sX elt (C.blk s H scope (compEnvC scope cls C' X.env) fp) h10).1
            · exact absurd hm (by simp [mE, hz2])
          · exact absurd hm (by simp [mE, hz])
        · exact absurd hm (by simp [mE])
      · exact absurd hm (by simp [mE])
    · exact absurd hm (by rcases fs with _ | _ <;> rcases fs2 with _ | _ <;> simp [mE])
  | .dcomp k v g it ifs own, W, X, C, e, hm => by
    cases e <;> try (cases hm; done)
    rename_i ke ve gens scope p
    rcases gens with _ | ⟨⟨tg, iter, fs, asy⟩, _ | _⟩
    · cases hm
    · by_cases hz : asy = 0
      · subst hz
        simp only [mE, Bool.and_eq_true, decide_eq_true_eq, Bool.not_eq_true'] at hm
        obtain ⟨⟨⟨⟨⟨⟨⟨h0, h1⟩, h2⟩, h3⟩, h4⟩, h5⟩, h6⟩, h7⟩ := hm
        have hc := C.calm h0
        refine both (me_dcomp (rt := evIfs P cl ifs) hc C.nd (sI (tg := tg) it C h3).1 (blkOk_by h1) h2 (fun s H C' cls fp => ?_) (fun s H C' cls fp => ?_) (fun s H C' cls fp => ?_) (fun s H C' cls fp => ?_) (sI (tg := tg) it C h3).2) fun _ => rfl
        · exact sG (X := X.blk s H scope (compEnvC scope cls C' X.env) fp) hc C.nd (fun x hx => hx) h4
        · exact sIfs ifs (C.blk s H scope (compEnvC scope cls C' X.env) fp) h5
        · exact (sX k (C.blk s H scope (compEnvC scope cls C' X.env) fp) h6).1
        · exact (sX v (C.blk s H scope (compEnvC scope cls C' X.env) fp) h7).1
      · exact absurd hm (by simp [mE, hz])
    · exact absurd hm (by simp [mE])
  | .sls r a lo st, W, X, C, e, hm => by
    cases e <;> try (cases hm; done)
    rename_i x sl p
    cases sl <;> try (cases hm; done)
    rename_i l hi stp p2
    cases hi <;> try (cases hm; done)
    cases stp <;> try (cases hm; done)
    rename_i stp
    cases stp <;> try (cases hm; done)
    rename_i kc kk p4
    cases kc <;> try (cases hm; done)
    simp only [mE, Bool.and_eq_true, decide_eq_true_eq] at hm
    exact both (me_sls hm.2 (sX a C hm.1.1).1 (sO lo C hm.1.2)) fun _ => rfl
  | .val i, W, X, C, e, hm => by
    cases e <;> try (cases hm; done)
    rename_i o at_ p
    cases o <;> try (cases hm; done)
    simp only [mE, Bool.and_eq_true, decide_eq_true_eq] at hm
    obtain ⟨⟨⟨h1, h2⟩, h3⟩, rfl⟩ := hm
    exact both (me_val C h1 (.inl (onlyLoc_of h2)) (noSp h3).1 (noSp h3).2) fun _ => rfl
theorem sSt : ∀ (as : Aes) {W : WX} {X : Cx} (C : Cg L P cl W X) {es : List Expr}, mSt L X.N X.env.scope as es = true → PA X es (tA P.exc (kx X) W (evs P cl as))
  | .nil, W, X, C, es, hm => by
    cases es with
    | cons _ _ => cases hm
    | nil => exact me_nil
  | .cons a as, W, X, C, es, hm => by
    cases es with
    | nil => cases hm
    | cons e es =>
      simp only [mSt, Bool.and_eq_true] at hm
      exact me_cons (sX a C hm.1).1 (sSt as C hm.2) (ok_star (mE_ok hm.1) es X.env)
  | .star a as, W, X, C, es, hm => by
    cases es with
    | nil => cases hm
    | cons e es =>
      cases e <;> try (cases hm; done)
      simp only [mSt, Bool.and_eq_true] at hm
      exact me_star (sX a C hm.1).1 (sSt as C hm.2)
theorem sKD : ∀ (ps : Aps) {W : WX} {X : Cx} (C : Cg L P cl W X) {pos : Pos} {ks : List (Option Expr)} {vs : List Expr}, mKD L X.N X.env.scope ps ks vs = true → MPs X P.exc W pos ks vs (evD P cl ps)
  | .nil, W, X, C, pos, ks, vs, hm => by
    cases ks with
    | cons _ _ => cases hm
    | nil => cases vs with
      | cons _ _ => cases hm
      | nil => exact mps_nil
  | .cons k v ps, W, X, C, pos, ks, vs, hm => by
    cases ks with
    | nil => cases hm
    | cons k0 ks => cases k0 with
      | none => cases hm
      | some k0 => cases vs with
        | nil => cases hm
        | cons v0 vs =>
          simp only [mKD, Bool.and_eq_true] at hm
          exact mps_cons (sX k C hm.1.1).1 (sX v C hm.1.2).1 (sKD ps C hm.2)
theorem sXs : ∀ (as : Aes) {W : WX} {X : Cx} (C : Cg L P cl W X) {es : List Expr}, mEs L X.N X.env.scope as es = true → PA X es (tA P.exc (kx X) W (evs P cl as))
  | .star _ _, W, X, C, es, hm => by cases es <;> cases hm
  | .nil, W, X, C, es, hm => by
    cases es with
    | cons _ _ => cases hm
    | nil => exact me_nil
  | .cons a as, W, X, C, es, hm => by
    cases es with
    | nil => cases hm
    | cons e es =>
      simp only [mEs, Bool.and_eq_true] at hm
      exact me_cons (sX a C hm.1).1 (sXs as C hm.2) (ok_star (mE_ok hm.1) es X.env)
theorem sKs : ∀ (as : Aes) {W : WX} {X : Cx} (C : Cg L P cl W X) {ks : List Str} {kws : List Keyword}, mKs L X.N X.env.scope ks as kws = true → PK X kws (tA P.exc (kx X) W (evs P cl as))
  | .star _ _, W, X, C, ks, kws, hm => by cases ks <;> cases kws <;> cases hm
  | .nil, W, X, C, ks, kws, hm => by
    cases ks with
    | cons _ _ => cases hm
    | nil => cases kws with
      | cons _ _ => cases hm
      | nil => exact mk_nil
  | .cons a as, W, X, C, ks, kws, hm => by
    cases ks with
    | nil => cases hm
    | cons k ks => cases kws with
      | nil => cases hm
      | cons kw kws =>
        obtain ⟨n, e, kp⟩ := kw
        cases n with
        | none => cases hm
        | some n =>
          simp only [mKs, Bool.and_eq_true] at hm
          exact mk_cons (sX a C hm.1.2).1 (sKs as C hm.2)
theorem sAnd : ∀ (as : Aes) {W : WX} {X : Cx} (C : Cg L P cl W X) {es : List Expr}, mEs L X.N X.env.scope as es = true → ∀ pos, PE X (.BoolOp .And es pos) (tE P.exc (kx X) W (evAnd P cl as)) ∧ PW X (.BoolOp .And es pos) (tT P.exc (kx X) W (truR (evAnd P cl as)))
  | .nil, W, X, C, es, hm, pos => ⟨stuck_e, stuck_w⟩
  | .star _ _, W, X, C, es, hm, pos => by cases es <;> cases hm
  | .cons _ (.star _ _), W, X, C, es, hm, pos => by
    rcases es with _ | ⟨e, _ | ⟨e2, es⟩⟩
    · cases hm
    · simp [mEs] at hm
    · simp [mEs] at hm
  | .cons a .nil, W, X, C, es, hm, pos => by
    rcases es with _ | ⟨e, _ | _⟩ <;> try (cases hm; done)
    · simp only [mEs, Bool.and_eq_true] at hm
      have := sX a C hm.1
      exact ⟨me_one this.1, mw_and1 this.2⟩
    · simp only [mEs, Bool.and_eq_true] at hm
      cases hm.2
  | .cons a (.cons b as), W, X, C, es, hm, pos => by
    rcases es with _ | ⟨e, _ | ⟨e2, es⟩⟩ <;> try (cases hm; done)
    · simp only [mEs, Bool.and_eq_true] at hm
      cases hm.2
    · unfold mEs at hm
      rw [Bool.and_eq_true] at hm
      have h1 := sX a C hm.1
      have h2 := sAnd (.cons b as) C hm.2 pos
      exact ⟨me_and h1.1 h2.1, mw_and h1.2 h2.2⟩
theorem sOr : ∀ (as : Aes) {W : WX} {X : Cx} (C : Cg L P cl W X) {es : List Expr}, mEs L X.N X.env.scope as es = true → ∀ pos, PE X (.BoolOp .Or es pos) (tE P.exc (kx X) W (evOr P cl as)) ∧ PW X (.BoolOp .Or es pos) (tT P.exc (kx X) W (truR (evOr P cl as)))
  | .nil, W, X, C, es, hm, pos => ⟨stuck_e, stuck_w⟩
  | .star _ _, W, X, C, es, hm, pos => by cases es <;> cases hm
  | .cons _ (.star _ _), W, X, C, es, hm, pos => by
    rcases es with _ | ⟨e, _ | ⟨e2, es⟩⟩
    · cases hm
    · simp [mEs] at hm
    · simp [mEs] at hm
  | .cons a .nil, W, X, C, es, hm, pos => by
    rcases es with _ | ⟨e, _ | _⟩ <;> try (cases hm; done)
    · simp only [mEs, Bool.and_eq_true] at hm
      have := sX a C hm.1
      exact ⟨me_one this.1, mw_or1 this.2⟩
    · simp only [mEs, Bool.and_eq_true] at hm
      cases hm.2
  | .cons a (.cons b as), W, X, C, es, hm, pos => by
    rcases es with _ | ⟨e, _ | ⟨e2, es⟩⟩ <;> try (cases hm; done)
    · simp only [mEs, Bool.and_eq_true] at hm
      cases hm.2
    · unfold mEs at hm
      rw [Bool.and_eq_true] at hm
      have h1 := sX a C hm.1
      have h2 := sOr (.cons b as) C hm.2 pos
      exact ⟨me_or h1.1 h2.1, mw_or h1.2 h2.2⟩
theorem sO : ∀ (a : Ao) {W : WX} {X : Cx} (C : Cg L P cl W X) {e : Option Expr}, mO L X.N X.env.scope a e = true → PO X e (tOi P.exc (kx X) W (evo P cl a))
  | .none, W, X, C, e, hm => by
    cases e with
    | some _ => cases hm
    | none => exact mo_none
  | .some a, W, X, C, e, hm => by
    cases e with
    | none => cases hm
    | some e => exact mo_some (sX a C hm).1
theorem sIfs : ∀ (a : Ao) {W : WX} {X : Cx} (C : Cg L P cl W X) {es : List Expr}, mIfs L X.N X.env.scope a es = true → PTs X es (tT P.exc (kx X) W (evIfs P cl a))
  | .none, W, X, C, es, hm => by
    cases es with
    | cons _ _ => cases hm
    | nil => exact mt_none
  | .some a, W, X, C, es, hm => by
    rcases es with _ | ⟨e, _ | _⟩ <;> try (cases hm; done)
    exact mt_some (sX a C hm).2
theorem sI : ∀ (a : Ai) {W : WX} {X : Cx} (C : Cg L P cl W X) {tg e : Expr}, mI L X.N X.env.scope tg a e = true → PI X tg e (tI P.exc (kx X) W (evi P cl a)) ∧ ∀ x, foldedSetIterable e X.env x = pure x
  | .ex a, W, X, C, tg, e, hm => ⟨mi_any (sX a C hm).1, ok_fold (mE_ok (show mE L X.N X.env.scope a e = true from hm)) X.env⟩
  | .range1 a, W, X, C, tg, e, hm => by
    cases e <;> try (cases hm; done)
    rename_i fn xs kws p
    cases fn <;> try (cases hm; done)
    cases kws with
    | cons _ _ => rcases xs with _ | ⟨x, _ | _⟩ <;> cases hm
    | nil =>
      rcases xs with _ | ⟨x, _ | _⟩ <;> try (cases hm; done)
      simp only [mI, Bool.and_eq_true, decide_eq_true_eq] at hm
      obtain ⟨⟨rfl, h2⟩, h3⟩ := hm
      obtain ⟨g1, g2, g3⟩ := free_of C h2
      exact ⟨mi_range1 g1 g3 (sX a C h3).1 (ok_star (mE_ok h3) [] X.env), fun _ => rfl⟩
  | .range2 a b, W, X, C, tg, e, hm => by
    cases e <;> try (cases hm; done)
    rename_i fn xs kws p
    cases fn <;> try (cases hm; done)
    cases kws with
    | cons _ _ => rcases xs with _ | ⟨x, _ | ⟨y, _ | _⟩⟩ <;> cases hm
    | nil =>
      rcases xs with _ | ⟨x, _ | ⟨y, _ | _⟩⟩ <;> try (cases hm; done)
      simp only [mI, Bool.and_eq_true, decide_eq_true_eq] at hm
      obtain ⟨⟨⟨rfl, h2⟩, h3⟩, h4⟩ := hm
      obtain ⟨g1, g2, g3⟩ := free_of C h2
      exact ⟨mi_range2 g1 g3 (sX a C h3).1 (sX b C h4).1 (by rw [ok_star (mE_ok h3), ok_star (mE_ok h4)]; rfl) (by rw [ok_star (mE_ok h4)]; rfl), fun _ => rfl⟩
  | .range3 a b c, W, X, C, tg, e, hm => by
    cases e <;> try (cases hm; done)
    rename_i fn xs kws p
    cases fn <;> try (cases hm; done)
    cases kws with
    | cons _ _ => rcases xs with _ | ⟨x, _ | ⟨y, _ | ⟨z, _ | _⟩⟩⟩ <;> cases hm
    | nil =>
      rcases xs with _ | ⟨x, _ | ⟨y, _ | ⟨z, _ | _⟩⟩⟩ <;> try (cases hm; done)
      simp only [mI, Bool.and_eq_true, decide_eq_true_eq] at hm
      obtain ⟨⟨⟨⟨h1, h2⟩, h3⟩, h4⟩, h5⟩ := hm
      obtain ⟨g1, g2, g3⟩ := free_of C h2
      have s3 := ok_star (mE_ok h5) [] X.env
      have s2 := ok_star (mE_ok h4) [z] X.env
      have s1 := ok_star (mE_ok h3) [y, z] X.env
      exact ⟨mi_range3 h1 g1 g3 (sX a C h3).1 (sX b C h4).1 (sX c C h5).1 (by rw [s1, s2, s3]; rfl) (by rw [s2, s3]; rfl) (by rw [s3]; rfl), fun _ => rfl⟩
  | .zip2 a b, W, X, C, tg, e, hm => by
    cases e <;> try (cases hm; done)
    rename_i fn xs kws p
    cases fn <;> try (cases hm; done)
    cases kws with
    | cons _ _ => rcases xs with _ | ⟨x, _ | ⟨y, _ | _⟩⟩ <;> cases hm
    | nil =>
      rcases xs with _ | ⟨x, _ | ⟨y, _ | _⟩⟩ <;> try (cases hm; done)
      simp only [mI, Bool.and_eq_true, decide_eq_true_eq] at hm
      obtain ⟨⟨⟨⟨h0, h1⟩, h2⟩, h3⟩, h4⟩ := hm
      obtain ⟨g1, g2, g3⟩ := free_of C h2
      cases tg <;> try (cases h0; done)
      have s2 := ok_star (mE_ok h4) [] X.env
      have s1 := ok_star (mE_ok h3) [y] X.env
      exact ⟨mi_zip2 h1 g1 g3 (sX a C h3).1 (sX b C h4).1 (by rw [s1, s2]; rfl) (by rw [s2]; rfl), fun _ => rfl⟩
  | .zip3 _ _ _, W, X, C, tg, e, hm => by cases hm
  | .enum a, W, X, C, tg, e, hm => by
    cases e <;> try (cases hm; done)
    rename_i fn xs kws p
    cases fn <;> try (cases hm; done)
    cases kws with
    | cons _ _ => rcases xs with _ | ⟨x, _ | _⟩ <;> cases hm
    | nil =>
      rcases xs with _ | ⟨x, _ | _⟩ <;> try (cases hm; done)
      simp only [mI, Bool.and_eq_true, decide_eq_true_eq] at hm
      obtain ⟨⟨⟨h0, h1⟩, h2⟩, h3⟩ := hm
      obtain ⟨g1, g2, g3⟩ := free_of C h2
      cases tg <;> try (cases h0; done)
      have s1 := ok_star (mE_ok h3) [] X.env
      exact ⟨mi_enum h1 g1 g3 (sX a C h3).1 (by rw [s1]; rfl), fun _ => rfl⟩
  | .rev _, W, X, C, tg, e, hm => by cases hm
end
end
end Mx

end

section
set_option Elab.async false
set_option Elab.async false
set_option linter.all false
set_option maxRecDepth 100000
set_option maxHeartbeats 8000000
/-! Statements: what is wanted behind them; try. -/
namespace Mx
open PySem PySem.Spec PyProof.Rows L2

/-- what is wanted behind a run of statements -/
def OP (exc : List Str) (K : Wr) (W : WX) (Z : List Addr) (G : Hp) (ι : List Addr) (H : Hp) (o : Out) (D : Ends) : Prop := match o with
  | .nx ρ h' => ∀ G' ι' H' σ', Nx K Z G ι H G' ι' h' H' → SR K G' ι' ρ σ' → D.nx σ' H'
  | .bk ρ h' => ∀ G' ι' H' σ', Nx K Z G ι H G' ι' h' H' → SR K G' ι' ρ σ' → D.bk σ' H'
  | .ct ρ h' => ∀ G' ι' H' σ', Nx K Z G ι H G' ι' h' H' → SR K G' ι' ρ σ' → D.ct σ' H'
  | .rt v h' => ∀ G' ι' H' x, Nx K Z G ι H G' ι' h' H' → RV K G' ι' v x → D.rt x H'
  | .exn c v ρ h' => c ∈ exc ∧ ∀ G' ι' H' σ' C dd x, Nx K Z G ι H G' ι' h' H' → SR K G' ι' ρ σ' → K.mg c = some (.ref C) → G' dd = some (.xd [(("value" : Str), x)]) → RV K G' ι' v x → W (.ref C) (some dd) σ' H'
  | .stuck => False
/-- a row of statements' reading: what its run hands on -/
def tS (exc : List Str) (K : Wr) (W : WX) (r : Env' → MH → Out) : TS := fun D σ H => ∃ Z G ι h ρ, HR K Z G ι h H ∧ SR K G ι ρ σ ∧ OP exc K W Z G ι H (r ρ h) D
section
variable {exc : List Str} {K : Wr} {W W' : WX} {Z : List Addr} {G G1 : Hp} {ι ι1 : List Addr} {h h1 : MH} {H H1 : Hp} {α β : Type} {D : Ends}
variable {R : Hp → List Addr → α → β → Prop}
theorem OP.later {o : Out} (p : OP exc K W Z G ι H o D) (n : Nx K Z G ι H G1 ι1 h1 H1) : OP exc K W Z G1 ι1 H1 o D := by
  cases o with
  | nx ρ h' => exact fun G' ι' H' σ' n' S => p G' ι' H' σ' (n.trans n') S
  | bk ρ h' => exact fun G' ι' H' σ' n' S => p G' ι' H' σ' (n.trans n') S
  | ct ρ h' => exact fun G' ι' H' σ' n' S => p G' ι' H' σ' (n.trans n') S
  | rt v h' => exact fun G' ι' H' x n' S => p G' ι' H' x (n.trans n') S
  | exn c v ρ h' => exact ⟨p.1, fun G' ι' H' σ' C dd x n' S => p.2 G' ι' H' σ' C dd x (n.trans n') S⟩
  | stuck => exact p
theorem OP.out {ρ : Env'} {σ : L2.St} {r : Res α} {f : α → MH → Out} {Q1 : β → Hp → Prop} (S : SR K G ι ρ σ) (p : OP exc K W Z G ι H (r.out ρ f) D)
    (k : ∀ a h1 G1 ι1 H1 b, Nx K Z G ι H G1 ι1 h1 H1 → R G1 ι1 a b → OP exc K W Z G1 ι1 H1 (f a h1) D → Q1 b H1) : RP exc K R Z G ι H r Q1 (fun cls d H' => W cls d σ H') := by
  cases r with
  | ok a h' => exact fun G' ι' H' b n q => k a h' G' ι' H' b n q (OP.later p n)
  | exn c v h' => exact ⟨p.1, fun G' ι' H' C dd x n a b q => p.2 G' ι' H' σ C dd x n (S.mono n.same n.pre) a b q⟩
  | stuck => exact p
theorem OP.seq {o : Out} {f : Env' → MH → Out} {N : L2.St → Hp → Prop} (p : OP exc K W Z G ι H (o.seq f) D)
    (k : ∀ ρ1 h1 G1 ι1 H1 σ1, Nx K Z G ι H G1 ι1 h1 H1 → SR K G1 ι1 ρ1 σ1 → OP exc K W Z G1 ι1 H1 (f ρ1 h1) D → N σ1 H1) : OP exc K W Z G ι H o { D with nx := N } := by
  cases o with
  | nx ρ h' => exact fun G' ι' H' σ' n S => k ρ h' G' ι' H' σ' n S (OP.later p n)
  | bk ρ h' => exact p
  | ct ρ h' => exact p
  | rt v h' => exact p
  | exn c v ρ h' => exact p
  | stuck => exact p
theorem OP.turn {o : Out} {f : Env' → MH → Out} {N : L2.St → Hp → Prop} (p : OP exc K W Z G ι H (o.turn f) D)
    (k : ∀ ρ1 h1 G1 ι1 H1 σ1, Nx K Z G ι H G1 ι1 h1 H1 → SR K G1 ι1 ρ1 σ1 → OP exc K W Z G1 ι1 H1 (f ρ1 h1) D → N σ1 H1) : OP exc K W Z G ι H o { D with nx := N, ct := N, bk := D.nx } := by
  cases o with
  | nx ρ h' => exact fun G' ι' H' σ' n S => k ρ h' G' ι' H' σ' n S (OP.later p n)
  | bk ρ h' => exact p
  | ct ρ h' => exact fun G' ι' H' σ' n S => k ρ h' G' ι' H' σ' n S (OP.later p n)
  | rt v h' => exact p
  | exn c v ρ h' => exact p
  | stuck => exact p
theorem OP.nx_here {ρ : Env'} {σ : L2.St} (p : OP exc K W Z G ι H (.nx ρ h) D) (R : HR K Z G ι h H) (S : SR K G ι ρ σ) : D.nx σ H := p G ι H σ (Nx.refl R) S
theorem OP.noxW {o : Out} (p : OP exc K W Z G ι H o.nox D) : OP exc K W' Z G ι H o D := by
  cases o with
  | nx ρ h' => exact p
  | bk ρ h' => exact p
  | ct ρ h' => exact p
  | rt v h' => exact p
  | exn c v ρ h' => exact p.elim
  | stuck => exact p
theorem OP.gone {o : Out} {i : Nat} (p : OP exc K W Z G ι H (o.gone i) D) : OP exc K W' Z G ι H o { nx := fun σ' H' => D.nx (σ'.set i none) H', rt := D.rt, bk := fun σ' H' => D.bk (σ'.set i none) H', ct := fun σ' H' => D.ct (σ'.set i none) H' } := by
  cases o with
  | nx ρ h' => exact fun G' ι' H' σ' n S => p G' ι' H' _ n (S.clear i)
  | bk ρ h' => exact fun G' ι' H' σ' n S => p G' ι' H' _ n (S.clear i)
  | ct ρ h' => exact fun G' ι' H' σ' n S => p G' ι' H' _ n (S.clear i)
  | rt v h' => exact p
  | exn c v ρ h' => exact p.elim
  | stuck => exact p
end

/-! ### try -/
section
variable {X : Cx} {pins : List (Addr × Obj)} {σ : L2.St} {H : Hp} {sI s3 : Shared} {a : Addr} {o : HO}
/-- a thing that stands in the heap is looked after from now on -/
theorem inv_track (J : Inv X pins σ H sI) (J3 : Inv X pins σ H s3) (ha : sI.heap.get? a = none) (hn : H a = none) (new : ObjOk X.prog X.w (upd H a o) s3.heap a o) : Inv X pins σ (upd H a o) s3 := by
  have neOf : ∀ {b u}, sI.heap.get? b = some u → b ≠ a := fun {b u} e z => by rw [z, ha] at e; cases e
  refine ⟨J3.ok, J3.os, J3.bare, ⟨J3.base.keep, J3.base.slot, fun b ob e n hx => ?_, J3.base.there, fun b xs e => ?_, fun b ob xs e => ?_, fun b ps e => ?_⟩, J3.loc, J3.cell, ?_, fun x c e => ?_, fun p hp => ?_, fun b u e => ?_, J3.len⟩
  · obtain ⟨o', q⟩ := J.base.there b ob e hx
    rw [upd_ne (neOf q)]; exact J3.base.free b ob e n hx
  · rw [upd_ne (ne_of_none (J3.base.tups b xs e) hn)]; exact J3.base.tups b xs e
  · rw [upd_ne (ne_of_none (J3.base.frzs b ob xs e) hn)]; exact J3.base.frzs b ob xs e
  · obtain ⟨more, q⟩ := J3.base.tbls b ps e
    exact ⟨more, by rw [upd_ne (ne_of_none q hn)]; exact q⟩
  · obtain ⟨m, hm, _⟩ := J.loc
    obtain ⟨ob, _, _, q, _⟩ := hm
    rw [upd_ne (neOf q)]; exact J3.free
  · obtain ⟨v, z⟩ := J.cell x c e
    obtain ⟨ob, q, _⟩ := z
    rw [upd_ne (neOf q)]; exact J3.freeC x c e
  · obtain ⟨e1, e2, e3, e4, e5⟩ := J3.pin p hp
    rw [upd_ne (neOf (J.pin p hp).1)]
    exact ⟨e1, e2, e3, e4, e5⟩
  · by_cases hb : b = a
    · subst hb; rw [upd_same] at e; cases e; exact new
    · rw [upd_ne hb] at e
      exact (J3.hok b u e).stay (fun _ _ _ q => q) (fun c q => by rw [upd_ne (ne_of_none q hn)]; exact q) fun c xs q => by rw [upd_ne (ne_of_none q hn)]; exact q
end
/-- one except clause: its class, the slot of its name, what its suite does -/
abbrev HdT := Value × Option Nat × TS
def wEnd (D : Ends) : Option Nat → Ends
  | none => D
  | some i => { nx := fun σ' H' => D.nx (σ'.set i none) H', rt := D.rt, bk := fun σ' H' => D.bk (σ'.set i none) H', ct := fun σ' H' => D.ct (σ'.set i none) H' }
def wSet (σ : L2.St) (a : Addr) : Option Nat → L2.St
  | none => σ
  | some i => σ.set i (some (.ref a))
/-- what the clauses wish of an exception of the body -/
def wHds (K : PySem.W.Frag) (Wout : WX) (D : Ends) : List HdT → WX
  | [] => Wout
  | (c, i, ts) :: r => fun cls d σ H => ∃ b, PySem.W.exmOne K cls c = some b ∧ (b = true → ∃ C dd, cls = .ref C ∧ d = some dd ∧ ∀ a, H a = none → ts (wEnd D i) (wSet σ a i) (upd H a (ExV C dd a))) ∧ (b = false → wHds K Wout D r cls d σ H)
/-- a clause's name is a local -/
def HdN (X : Cx) : Option Str → Option Nat → Prop
  | none, none => True
  | some n, some i => X.N[i]? = some n ∧ X.env.kindOf n = some .local
  | _, _ => False
inductive HdsK (X : Cx) : List ExceptHandler → List HdT → Prop
  | nil : HdsK X [] []
  | cons {x : Str} {c : Value} {i : Option Nat} {n : Option Str} {ts : TS} {b₀ : Stmt} {suite : List Stmt} {np pos' : Pos} {hds : List ExceptHandler} {l : List HdT} (hc : Names X x c) (hn : HdN X n i)
      (hsu : ∀ (a : Addr) (pn : List (Addr × Obj)), PSs (X.suite a pn) (b₀ :: suite) ts) (r : HdsK X hds l) :
      HdsK X (.ExceptHandler (some (.Name x np)) n (b₀ :: suite) pos' :: hds) ((c, i, ts) :: l)
section
variable {X : Cx} {body : List Stmt} {h₀ : ExceptHandler} {hds : List ExceptHandler} {l : List HdT} {pos : Pos} {tb : WX → TS} {Wout : WX}
theorem ps_try_own (hs : X.stack = X.env :: X.outer) (hf : X.env.frame = some X.env.locals) (hN : X.N.Nodup) (tk : Takes X Wout)
    (hb : ∀ (W : WX) (pn : List (Addr × Obj)) (xe : Value → Shared → Prop), Takes (X.tr pn xe) W → PassesOwn (model X.prog X.w) X.A X.env xe → PSs (X.tr pn xe) body (tb W))
    (hh : HdsK X (h₀ :: hds) l) : PS X (.Try body (h₀ :: hds) [] [] pos) (fun D σ H => tb (wHds X.K Wout D l) D σ H) := by
  refine ⟨fun pins s σ H D I h => ?_⟩
  have ok := I.ok
  have hfr : X.A.frames = some (X.env :: X.outer) := by rw [ok.frames, hs]
  refine wpAny_Try_except ?_
  refine wpAny_mono ((hb (wHds X.K Wout D l) (X.pn ++ pins) (fun e s₁ => wpAny (model X.prog X.w) X.A (noteFrame e X.env) (fun _ s₂ => wpAny (model X.prog X.w) X.A (setFlight e none) (fun _ s₃ =>
    wpAny (model X.prog X.w) X.A (handleBy e X.env (h₀ :: hds)) (SP X pins D) X.xe s₃) X.xe s₂) X.xe s₁) (fun u s' xx => ?_) PassesOwn.looking).run [] s σ H D (I.toTry _) h) (fun f s1 hsp => ?_) (fun e s1 he => he)
  · -- the catch
    obtain ⟨a, B, sI, pins', σ', H', cls, d, rfl, J', nb, up, sky, na, os, ag, w⟩ := xx
    have J : Inv X pins σ' H' sI := J'.ofTry ok
    have sky' : Sky B (X.env :: X.outer) a (Zc cls d) X.env.locals s'.heap := by rw [← hs]; exact sky
    show wpAny (model X.prog X.w) X.A (noteFrame (.ref a) X.env) _ _ _
    refine Sky.land Zc.steady hfr hf sky' fun h3 fl3 up3 => ?_
    have J3 : Inv X pins σ' H' { s' with heap := h3 } := J.landed nb fl3.1 (up.trans up3) os ag
    obtain ⟨oe3, vs3, he3, hz3, hd3⟩ := fl3.there
    have notFr : ∀ {h : Heap} {o : Obj} {vs : Array Value}, h.FunFrames B (X.env :: X.outer) → h.get? a = some o → o.data = .fields vs → a ∉ frs (X.env :: X.outer) := fun {h o vs} ff e dd hm => by
      obtain ⟨_, o', e', hnf⟩ := ff.mem hm
      rw [e] at e'; cases e'
      exact hnf _ dd
    have nfr := notFr fl3.2.2.1 he3 hd3
    have haI : sI.heap.get? a = none := by
      cases q : sI.heap.get? a with
      | none => rfl
      | some o =>
        have := nb a o q (by rw [hs]; exact nfr)
        rw [fl3.2.1] at this; cases this
    have nL : a ≠ X.env.locals := fun z => nfr (List.mem_filterMap.mpr ⟨X.env, List.mem_cons_self, by rw [hf, z]⟩)
    have nF : a ∉ X.fs := fun hm => by
      obtain ⟨e, he, q⟩ := List.mem_filterMap.mp hm
      exact nfr (List.mem_filterMap.mpr ⟨e, List.mem_cons_of_mem _ he, q⟩)
    have S3 := J3.suite he3 hd3 na nL nF
    have go : ∀ {hds' : List ExceptHandler} {l' : List HdT}, HdsK X hds' l' → wHds X.K Wout D l' cls d σ' H' →
        wpAny (model X.prog X.w) X.A (handleBy (.ref a) X.env hds') (SP X pins D) X.xe { s' with heap := h3 } := by
      intro hds' l' hk
      induction hk with
      | nil =>
        intro w
        refine wpAny_handleBy_nil ?_
        obtain ⟨k1, k2, k3, oe, vs, T, oT, ts', he, hz, hd, h1, hr⟩ := id fl3
        unfold PySem.passOn
        refine wpAny_bind (wpAny_field he hd h1 ?_)
        rw [if_neg (show ¬ ((Value.ref T == Value.none) = true) from by simp)]
        have fin : wpAny (model X.prog X.w) X.A (setFlight (.ref a) X.env.frame) (fun _ s4 => wpAny (model X.prog X.w) X.A (throw (.ref a) : Sem Flow) (SP X pins D) X.xe s4) X.xe { s' with heap := h3 } := by
          rw [hf]
          refine HandSPX.setFlight_upZ fl3 fun h4 hh4 up4 => wpAny_throw (tk _ _ ?_)
          exact ⟨a, B, sI, pins, σ', H', cls, d, rfl, J, nb, (up.trans up3).trans up4, .inr (.inr (by rw [hs]; exact hh4)), na, os, ag, w⟩
        first
          | exact wpAny_bind (wpAny_pure (wpAny_bind fin))
          | exact wpAny_bind fin
      | @cons x c i n ts b₀ suite np pos' hds2 l2 hc hn hsu r ih =>
        intro w
        obtain ⟨b, hb1, hyes, hno⟩ := w
        refine wpAny_handleBy_cons (codeAny_handlers_test ?_) (by intro q; cases q)
        have LT : PySem.W.Looks (model X.prog X.w) h3 (typeOf (.ref a)) cls := fun A Q E s k q => wpAny_typeOf_ref (k _ _ he3) (by rw [hz3.1]; exact q)
        have LM := PySem.W.exm_one (M := model X.prog X.w) (J3.kIn) LT hb1
        have test : ∀ {Q : Value → Shared → Prop} {E : Value → Shared → Prop}, Q c { s' with heap := h3 } → wpAny (model X.prog X.w) (X.A.mark (some (.ref a))) (eval (.Name x np) X.env) Q E { s' with heap := h3 } := fun {Q E} q => by
          obtain ⟨hg, hdbg, hm | ⟨hm, hv, hnn⟩⟩ := hc
          · exact ld_glob (X := X.suite a ((a, oe3) :: (X.pn ++ pins))) S3 hg hm q hdbg
          · exact ld_blt (X := X.suite a ((a, oe3) :: (X.pn ++ pins))) S3 hg hm hv q hnn hdbg
        refine test (LM.here ?_)
        cases b with
        | true =>
          obtain ⟨C, dd, ec, ed, hy⟩ := hyes rfl
          subst ec ed
          -- the suite, from the landed state
          have track : ∀ {h4 : Heap}, HandSPX.FlyingZ B (X.env :: X.outer) a (Zc (.ref C) (some dd)) h4 → h3.UpToSlots h4 → Inv (X.suite a (X.pn ++ pins)) [] σ' (upd H' a (ExV C dd a)) { s' with heap := h4 } := by
            intro h4 fl4 up4
            have J4 : Inv X pins σ' H' { s' with heap := h4 } := J.landed nb fl4.1 ((up.trans up3).trans up4) os ag
            obtain ⟨oe4, vs4, he4, hz4, hd4⟩ := fl4.there
            have T4 : Inv X pins σ' (upd H' a (ExV C dd a)) { s' with heap := h4 } := inv_track J J4 haI na
              ⟨⟨oe4, vs4, he4, hz4.1, hz4.2, hd4⟩, ⟨_, he4⟩, fun g1 g2 ⟨oe, vs, e1, e2, e3, e4⟩ k => ⟨oe, vs, k _ e1, e2, e3, e4⟩⟩
            exact ⟨T4.ok.suite _ _, T4.os, T4.bare, T4.base, T4.loc, T4.cell, T4.free, T4.freeC, fun p hp => by
              have hp' : p ∈ X.pn ++ pins := by rw [List.append_nil] at hp; exact hp
              exact T4.pin p hp', T4.hok, T4.len⟩
          have back : ∀ {σ6 : L2.St} {H6 : Hp} {s6 : Shared}, Inv (X.suite a (X.pn ++ pins)) [] σ6 H6 s6 → Inv X pins σ6 H6 s6 := fun {σ6 H6 s6} I6 =>
            ⟨ok, I6.os, I6.bare, I6.base, I6.loc, I6.cell, I6.free, I6.freeC, fun p hp => I6.pin p (List.mem_append_left _ hp), I6.hok, I6.len⟩
          cases n with
          | none =>
            cases i with
            | some _ => exact hn.elim
            | none =>
              refine codeAny_handlers_suite ?_
              refine HandSPX.lands_againZ fl3 fun h4 fl4 up4 => ?_
              have S4 := track fl4 up4
              refine wpAny_mono ((hsu a (X.pn ++ pins)).run [] _ _ _ _ S4 (hy a na)) (fun f s6 hsp => ?_) (fun _ _ z => False.elim z)
              cases f with
              | next =>
                obtain ⟨σ6, H6, S6, q6⟩ := hsp
                exact ⟨_, _, back S6, q6⟩
              | brk =>
                obtain ⟨σ6, H6, S6, q6⟩ := hsp
                exact ⟨_, _, back S6, q6⟩
              | cont =>
                obtain ⟨σ6, H6, S6, q6⟩ := hsp
                exact ⟨_, _, back S6, q6⟩
              | ret u =>
                obtain ⟨v6, σ6, H6, S6, r6, q6⟩ := hsp
                exact ⟨_, _, _, back S6, r6, q6⟩
          | some n =>
            cases i with
            | none => exact hn.elim
            | some i =>
              obtain ⟨hi, hln⟩ := hn
              have hloc : Loc X.env.scope n := .inl hln
              refine codeAny_handlers_suite_as ?_
              refine HandSPX.lands_againZ fl3 fun h4 fl4 up4 => ?_
              have S4 := track fl4 up4
              refine store_ok (X := X.suite a (X.pn ++ pins)) (v := .ref a) S4 hN hi hloc rfl (fun s5 S5 => ?_) (.inr hln)
              refine wpAny_mono ((hsu a (X.pn ++ pins)).run [] s5 _ _ _ S5 (hy a na)) (fun f s6 hsp => ?_) (fun _ _ z => False.elim z)
              have end_ : ∀ {σ6 : L2.St} {H6 : Hp} {Q : Shared → Prop}, Inv (X.suite a (X.pn ++ pins)) [] σ6 H6 s6 → (∀ s7, Inv X pins (σ6.set i none) H6 s7 → Q s7) →
                  wpAny (model X.prog X.w) X.A (do bindName X.env n .none; unbindBehindTheSuite X.env n pos') (fun _ s7 => Q s7) X.xe s6 := fun {σ6 H6 Q} S6 hq => gone_ok (back S6) hN hi hln hq
              cases f with
              | next =>
                obtain ⟨σ6, H6, S6, q6⟩ := hsp
                exact end_ S6 fun s7 J7 => ⟨_, _, J7, q6⟩
              | brk =>
                obtain ⟨σ6, H6, S6, q6⟩ := hsp
                exact end_ S6 fun s7 J7 => ⟨_, _, J7, q6⟩
              | cont =>
                obtain ⟨σ6, H6, S6, q6⟩ := hsp
                exact end_ S6 fun s7 J7 => ⟨_, _, J7, q6⟩
              | ret u =>
                obtain ⟨v6, σ6, H6, S6, r6, q6⟩ := hsp
                exact end_ S6 fun s7 J7 => ⟨_, _, _, J7, r6, q6⟩
        | false =>
          show wpAny _ X.A (handleBy (.ref a) X.env hds2) _ _ _
          exact ih (hno rfl)
    exact go hh w
  · cases f with
    | next =>
      obtain ⟨σ', H', J', q⟩ := hsp
      exact wpAny_execs_nil ⟨σ', H', J'.ofTry ok, q⟩
    | brk =>
      obtain ⟨σ', H', J', q⟩ := hsp
      exact ⟨σ', H', J'.ofTry ok, q⟩
    | cont =>
      obtain ⟨σ', H', J', q⟩ := hsp
      exact ⟨σ', H', J'.ofTry ok, q⟩
    | ret u =>
      obtain ⟨v, σ', H', J', r, q⟩ := hsp
      exact ⟨v, σ', H', J'.ofTry ok, r, q⟩
end
end Mx

end

section
set_option Elab.async false
set_option Elab.async false
set_option linter.all false
set_option maxRecDepth 100000
set_option maxHeartbeats 8000000
/-! Statements: stores, raise. -/
namespace Mx
open PySem PySem.Spec PyProof.Rows L2

/-- no comprehension -/
def notComp : Expr → Bool
  | .ListComp _ _ _ _ => false
  | .SetComp _ _ _ _ => false
  | .DictComp _ _ _ _ _ => false
  | _ => true
theorem sw_none {e : Expr} (h : notComp e = true) (t : Option Expr) (l : Nat) (env : Env) : swapsWith e t l env = pure false := by
  cases e <;> first | rfl | cases h
theorem sw_comp {elt : Expr} {gs : List Comprehension} {scope : Scope} {p pos : Pos} {t : Str} {l : Nat} {env : Env} (hk : env.scope.kind = .function) : swapsWith (.ListComp elt gs scope p) (some (.Name t pos)) l env =
    pure (env.scope.names.lookup t == some .local && pos.line == p.line && !(scope.names.any fun (n, k) => n == t && (k == .local || k == .cell))) := by
  have hb : env.blockKind = .function := by unfold Env.blockKind; rw [hk]; rfl
  unfold swapsWith
  simp only [hb]
  rfl
theorem sw_dcomp {ke ve : Expr} {gs : List Comprehension} {scope : Scope} {p pos : Pos} {t : Str} {l : Nat} {env : Env} (hk : env.scope.kind = .function) : swapsWith (.DictComp ke ve gs scope p) (some (.Name t pos)) l env =
    pure (env.scope.names.lookup t == some .local && pos.line == p.line && !(scope.names.any fun (n, k) => n == t && (k == .local || k == .cell))) := by
  have hb : env.blockKind = .function := by unfold Env.blockKind; rw [hk]; rfl
  unfold swapsWith
  simp only [hb]
  rfl
theorem sw_sub {e o i : Expr} {p : Pos} {l : Nat} {env : Env} : swapsWith e (some (.Subscript o i p)) l env = pure false := by
  cases e <;> rfl

/-! ### names from the right -/
def setAll : L2.St → List Nat → List V → L2.St
  | σ, i :: is, v :: vs => setAll (σ.set i (some v)) is vs
  | σ, _, _ => σ
theorem setAll_set {i : Nat} {v : V} : ∀ {is : List Nat} {vs : List V} {σ : L2.St}, i ∉ is → setAll (σ.set i (some v)) is vs = (setAll σ is vs).set i (some v)
  | [], _, _, _ => by unfold setAll; rfl
  | j :: is, [], _, _ => by unfold setAll; rfl
  | j :: is, w :: vs, σ, h => by
    have h1 : i ≠ j := fun e => h (e ▸ List.mem_cons_self)
    have h2 : i ∉ is := fun q => h (List.mem_cons_of_mem _ q)
    show setAll ((σ.set i (some v)).set j (some w)) is vs = (setAll (σ.set j (some w)) is vs).set i (some v)
    rw [List.set_comm _ _ h1, setAll_set h2]
theorem setAll_snoc {i : Nat} {v : V} : ∀ {is : List Nat} {vs : List V} {σ : L2.St}, is.length = vs.length → setAll σ (is ++ [i]) (vs ++ [v]) = (setAll σ is vs).set i (some v)
  | [], [], _, _ => by unfold setAll; rfl
  | [], _ :: _, _, h => by cases h
  | _ :: _, [], _, h => by cases h
  | j :: is, w :: vs, σ, h => by
    show setAll (σ.set j (some w)) (is ++ [i]) (vs ++ [v]) = (setAll (σ.set j (some w)) is vs).set i (some v)
    exact setAll_snoc (by simpa using h)
theorem setAll_rev : ∀ {is : List Nat} {vs : List V} {σ : L2.St}, is.Nodup → is.length = vs.length → setAll σ is.reverse vs.reverse = setAll σ is vs
  | [], [], _, _, _ => rfl
  | [], _ :: _, _, _, h => by cases h
  | _ :: _, [], _, _, h => by cases h
  | i :: is, v :: vs, σ, nd, h => by
    rw [List.nodup_cons] at nd
    rw [List.reverse_cons, List.reverse_cons, setAll_snoc (by simpa using h), setAll_rev nd.2 (by simpa using h)]
    show _ = setAll (σ.set i (some v)) is vs
    rw [setAll_set nd.1]
def nmsOf : Ags → Option (List Nat)
  | .nil => some []
  | .cons (.nm i) gs => (nmsOf gs).map (i :: ·)
  | .cons (.tp _) _ => none
theorem bind_nms {K : Wr} {G : Hp} {ι : List Addr} {h : MH} : ∀ {gs : Ags} {is : List Nat} {xs : List PV} {ρ ρ' : Env'}, nmsOf gs = some is → bindGs gs xs ρ h = some ρ' → xs.length = is.length ∧ ∀ {σ : L2.St} {vs : List V}, SR K G ι ρ σ → RVs K G ι xs vs → SR K G ι ρ' (setAll σ is vs)
  | .nil, is, xs, ρ, ρ', e, b => by
    simp only [nmsOf, Option.some.injEq] at e
    subst e
    cases xs with
    | cons _ _ => simp [bindGs] at b
    | nil =>
      simp only [bindGs, Option.some.injEq] at b
      subst b
      refine ⟨rfl, fun S r => ?_⟩
      rw [r.nil_inv]
      exact S
  | .cons (.tp _) _, is, xs, ρ, ρ', e, b => by cases e
  | .cons (.nm i) gs, is, xs, ρ, ρ', e, b => by
    unfold nmsOf at e
    cases e1 : nmsOf gs with
    | none => rw [e1] at e; cases e
    | some js =>
      rw [e1] at e
      cases e
      cases xs with
      | nil => simp [bindGs] at b
      | cons x xs =>
        unfold bindGs at b
        split at b
        · rename_i ρ1 e2
          unfold bindG at e2
          split at e2
          · cases e2
            obtain ⟨q1, q2⟩ := bind_nms (K := K) (G := G) (ι := ι) e1 b
            refine ⟨by rw [List.length_cons, List.length_cons, q1], fun {σ vs} S r => ?_⟩
            obtain ⟨v, ws, rfl, r1, r2⟩ := r.cons_inv
            exact q2 (S.set r1) r2
          · cases e2
        · cases b
section
variable {X : Cx} {pins : List (Addr × Obj)} {σ : L2.St} {H : Hp} {s : Shared}
theorem store_all {Q : Unit → Shared → Prop} (hN : X.N.Nodup) : ∀ {ns : List Str} {is : List Nat} {vs : List V} {us : List Value} {σ : L2.St} {s : Shared}, Inv X pins σ H s → is.map (X.N[·]?) = ns.map some → (∀ n ∈ ns, X.env.scope.names.lookup n = some .local) → Vals vs us → vs.length = is.length →
    (∀ s', Inv X pins (setAll σ is vs) H s' → Q () s') → wpAny (model X.prog X.w) X.A (assignInOrder (ns.map fun n => bindName X.env n) us) Q X.xe s
  | [], [], vs, us, σ, s, I, _, _, r, hl, h => by
    cases vs with
    | cons _ _ => cases hl
    | nil =>
      cases r
      exact assignInOrder_nil (h s I)
  | [], _ :: _, _, _, _, _, _, e, _, _, _, _ => by cases e
  | _ :: _, [], _, _, _, _, _, e, _, _, _, _ => by cases e
  | n :: ns, i :: is, vs, us, σ, s, I, e, hl, r, hlen, h => by
    rw [List.map_cons, List.map_cons, List.cons.injEq] at e
    cases vs with
    | nil => cases hlen
    | cons v vs =>
      cases r with
      | cons r rr =>
        have hy := hl n List.mem_cons_self
        refine assignInOrder_cons (wpAny_bindName (store_ok I hN e.1 (.inl hy) r (fun s2 I2 => ?_) (.inr hy)))
        exact store_all hN I2 e.2 (fun m hm => hl m (List.mem_cons_of_mem _ hm)) rr (by simpa using hlen) h
def tSwap (K : PySem.W.Frag) (is : List Nat) (te : TE) : TS := fun D σ H => te σ H fun x H1 => ∃ a vs, x = .ref a ∧ (SqL K H1 a vs ∨ SqT K H1 a vs) ∧ vs.length = is.length ∧ D.nx (setAll σ is vs) H1
theorem ps_swap {ts : List Expr} {e : Expr} {k : Nat} {pt pos : Pos} {ns : List Str} {is : List Nat} {te : TE} (hc : X.calm = true) (hN : X.N.Nodup) (he : PE X e te) (hw : swappedStores [.Tuple ts k pt] e X.env = pure (some ns)) (hs : swapsWithSole [.Tuple ts k pt] e pos.line X.env = pure false)
    (hi : is.map (X.N[·]?) = ns.map some) (hl : ∀ n ∈ ns, X.env.scope.names.lookup n = some .local) (nd : is.Nodup) : PS X (.Assign [.Tuple ts k pt] e pos) (tSwap X.K is te) := by
  refine ⟨fun pins s σ H D I h => ?_⟩
  rw [exec_Assign_arm]
  refine wpAny_bind (wpAny_standAt ?_)
  rw [hs]
  refine wpAny_bind (wpAny_pure ?_)
  rw [if_neg (by decide)]
  refine wpAny_bind (thn (he.run pins s σ H _ I h) fun u s1 ⟨x, H1, I1, r1, a, vs, ex, hq, hlen, q⟩ => ?_)
  subst ex
  cases r1
  obtain ⟨its, rv, hU⟩ : ∃ its : List Value, Vals vs its ∧ ∀ {Q' : List Value → Shared → Prop}, (∀ h', Heap.ExtBut s1.heap.objs.size s1.heap h' → Q' its.toArray.toList { s1 with heap := h' }) → wpAny (model X.prog X.w) X.A (unpackItems (.ref a) its.toArray.size none) Q' X.xe s1 := by
    rcases hq with hq | hq
    · obtain ⟨its, rv, pl, _⟩ := I1.list hq
      exact ⟨its, rv, fun k => PySem.W.kun_itemsOf (I1.ok.hd hc) pl.isList k⟩
    · obtain ⟨its, rv, ht, _⟩ := I1.tuple hq
      exact ⟨its, rv, fun k => unpackItems_tuple (I1.ok.hd hc) ht k⟩
  rw [hw]
  refine wpAny_bind (wpAny_pure ?_)
  have hnl : ns.length = is.length := by
    have := congrArg List.length hi
    simpa using this.symm
  have hsz : ns.length = its.toArray.size := by rw [List.size_toArray, ← rv.length, hlen, hnl]
  show wpAny (model X.prog X.w) X.A (do rule "assign.swapped-stores"; let items ← unpackItems (.ref a) ns.length none; assignInOrder (ns.reverse.map fun n => bindName X.env n) items.reverse; pure Flow.next) _ _ _
  rw [hsz]
  refine wpAny_bind (wpAny_rule (wpAny_bind (hU fun h' hx' => ?_)))
  have I2 := I1.kept (h' := h') (t' := s1.toks) fun b o e => hx' b o (Nat.ne_of_lt (Heap.lt_size e)) e
  refine wpAny_bind (store_all hN (ns := ns.reverse) (is := is.reverse) (vs := vs.reverse) I2 (by rw [List.map_reverse, List.map_reverse, hi]) (fun n hn => hl n (List.mem_reverse.mp hn)) ?_ (by rw [List.length_reverse, List.length_reverse, hlen]) fun s3 I3 => wpAny_pure ?_)
  · have : ∀ {vs : List V} {us : List Value}, Vals vs us → Vals vs.reverse us.reverse := by
      intro vs us r
      induction r with
      | nil => exact .nil
      | cons r _ ih =>
        rw [List.reverse_cons, List.reverse_cons]
        exact ih.append (.cons r .nil)
    simpa using this rv
  · rw [setAll_rev nd hlen.symm] at I3
    exact ⟨_, H1, I3, q⟩
end
/-- how the stores of a written pair go -/
def isStarred : Expr → Bool
  | .Starred _ _ => true
  | _ => false
def nameOn (sc : Scope) (line : Nat) : Expr → Option Str
  | .Name id pos => if sc.names.lookup id == some .local && pos.line == line then some id else none
  | _ => none
def swK (sc : Scope) (ts vs : List Expr) : Option (Option (List Str)) :=
  if (!(ts.length == 2 || ts.length == 3) || vs.length != ts.length) = true then some none
  else if vs.any isStarred = true then some none
  else
    let names := ts.filterMap (nameOn sc ((ts.head?.map (·.pos.line)).getD 0))
    if (names.length != ts.length || names.eraseDups.length != names.length) = true then some none
    else if vs.all (foldedForSure 8) = true then some none
    else if vs.all (constantsAlone 8) = true then none
    else some (some names)
theorem swK_ok {ts vs : List Expr} {k k2 : Nat} {p p2 : Pos} {env : Env} {r : Option (List Str)} (hk : env.scope.kind = .function) (h : swK env.scope ts vs = some r) : swappedStores [.Tuple ts k p] (.Tuple vs k2 p2) env = pure r := by
  have hb : (env.blockKind != .function) = false := by unfold Env.blockKind; rw [hk]; rfl
  have e1 : (vs.any fun | .Starred .. => true | _ => false) = vs.any isStarred := rfl
  unfold swappedStores
  unfold swK at h
  dsimp only
  simp only [hb, Bool.or_false]
  split at h
  · rename_i c
    cases h
    rw [if_pos c]
  · rename_i c
    rw [if_neg c]
    split at h
    · rename_i c2
      cases h
      rw [if_pos (by exact c2)]
    · rename_i c2
      rw [if_neg (by exact c2)]
      dsimp only at h
      split at h
      · rename_i c3
        cases h
        rw [if_pos (by exact c3)]
      · rename_i c3
        rw [if_neg (by exact c3)]
        split at h
        · rename_i c4
          cases h
          rw [if_pos c4]
        · rename_i c4
          rw [if_neg c4]
          split at h
          · cases h
          · rename_i c5
            cases h
            rw [if_neg c5]
            rfl
def isTup : Expr → Bool
  | .Tuple _ _ _ => true
  | _ => false
theorem swN_ok {t : Expr} {e : Expr} {env : Env} (h : isTup e = false) : swappedStores [t] e env = pure none := by
  cases e <;> first | cases h | skip
  all_goals cases t <;> rfl
theorem swS_ok {o i : Expr} {p : Pos} {e : Expr} {env : Env} : swappedStores [.Subscript o i p] e env = pure none := by
  cases e <;> rfl

/-! ### raise -/
/-- what C's __init__ does -/
def spInit (K : PySem.W.Frag) : Sp := fun vs H Q _ => ∃ (a C : Addr) (y : V), vs = [.ref a, y] ∧ OexC K C ∧ PySem.W.findIn K (.ref C) "value" = some none ∧ H a = some (exo a C none) ∧
  ∀ dx, H dx = none → dx ≠ a → Q .non (upd (upd H dx (exd dx [(("value" : Str), y)])) a (exo a C (some dx)))
theorem passN {X : Cx} : Passes (L2.CX X.prog X.w) X (fun _ _ _ => False) := fun _ _ _ _ _ _ _ h => by
  obtain ⟨_, _, _, _, _, _, _, _, _, _, _, _, z⟩ := h
  exact z.elim
/-- a class that may be raised -/
def RaisK (X : Cx) (c : Str) : Prop := ∃ (C fI : Addr) (k : Nat) (fd : FuncData), X.mg c = some (.ref C) ∧ OexC X.K C ∧ PySem.W.findIn X.K (.ref C) "value" = some none ∧ PySem.W.findIn X.K (.ref C) "__init__" = some (some (.ref fI)) ∧ PySem.W.typeIn X.K (.ref fI) = some (.type "function") ∧
  FnOk X.prog X.w X.K X.mg X.base (L2.CX X.prog X.w) k fI fd ["self", "value"] (spInit X.K) ∧ Room (k + 1) X.A ∧ Binds X.K fd ["self", "value"] []
theorem me_raise {X : Cx} {exc : List Str} {W : WX} {c : Str} {a : Expr} {p p2 pos : Pos} {r : Env' → MH → Res PV} (hc : X.calm = true) (tk : Takes X W) (hx : c ∈ exc) (hR : RaisK X c) (hg : Gl X c) (hdb : (c == ("__debug__" : Str)) = false) (ha : PE X a (tE exc (kx X) W r)) (hst : starEach [a] X.env = [(false, eval a X.env)]) :
    PS X (.Raise (some (.Call (.Name c p) [a] [] p2)) none pos) (tS exc (kx X) W fun ρ h => (r ρ h).out ρ fun x h => .exn c x ρ h) := by
  obtain ⟨C, fI, k, fd, h1, h2, h3, h4, h5, h6, h7, h8⟩ := hR
  refine (ps_raise hc tk (pmk_oex (dvs := []) (ds := []) h2 h4 h5 h6 h7 h8 .nil passN hg h1 (pa_cons ha pa_nil (by rw [hst]; rfl)) hdb (by rw [hst]; rfl) rfl)).weak fun D σ H q => ?_
  obtain ⟨Z, G, ι, h, ρ, R, S, p⟩ := q
  refine ⟨Z, G, ι, h, ρ, R, S, p.out S fun x h1' G1 ι1 H1 vx n1 rx p1 => ?_⟩
  refine ⟨by simp, fun a0 hn0 => ?_⟩
  refine ⟨a0, C, vx, rfl, h2, h3, upd_same, fun dx hdx hne => ⟨rfl, dx, [(("value" : Str), vx)], upd_same, ?_, ?_, ?_⟩⟩
  · rw [upd_ne hne, upd_same]
  · rw [upd_ne hne] at hdx; exact hdx
  · rw [upd_ne hne] at hdx
    have e : upd (del (upd (upd (upd H1 a0 (exo a0 C none)) dx (exd dx [(("value" : Str), vx)])) a0 (exo a0 C (some dx))) a0) dx (.xd [(("value" : Str), vx)]) = upd H1 dx (.xd [(("value" : Str), vx)]) := by
      funext b
      by_cases hb : b = dx
      · rw [hb, upd_same, upd_same]
      · rw [upd_ne hb, upd_ne hb]
        by_cases hb2 : b = a0
        · rw [hb2, del_same, hn0]
        · rw [del_ne hb2, upd_ne hb2, upd_ne hb, upd_ne hb2]
    rw [e]
    have n2 : Nx (kx X) Z G1 ι1 H1 (upd G1 dx (.xd [(("value" : Str), vx)])) ι1 h1' (upd H1 dx (.xd [(("value" : Str), vx)])) :=
      ⟨same_upd (n1.hr.gnone hdx), Pre.refl _, n1.hr.laid hdx, fun z hz => upd_ne fun e => n1.hr.freshZ hdx (e ▸ hz)⟩
    exact p1.2 _ _ _ σ C dx vx n2 (S.mono (n1.same.trans n2.same) (n1.pre.trans n2.pre)) h1 upd_same (rx.mono n2.same n2.pre)
end Mx

end

section
set_option Elab.async false
set_option Elab.async false
set_option linter.all false
set_option maxRecDepth 100000
set_option maxHeartbeats 8000000
/-! What the checker takes runs as the small language says: statements. -/
namespace Mx
open PySem PySem.Spec PyProof.Rows L2

abbrev Lk.at (L : Lk) (hot : Bool) : Lk := { L with hot := hot }
section
variable (L : Lk) (N : List Str)
/-- how a written tuple is stored -/
def swOk (sc : Scope) (gs : Ags) (ts : List Expr) : Expr → Bool
  | .Tuple vs _ _ => match swK sc ts vs with
    | some none => true
    | some (some ns) => match nmsOf gs with
      | some is => decide (is.map (N[·]?) = ns.map some) && ns.all (onlyLocB sc) && decide is.Nodup
      | none => false
    | none => false
  | _ => true
def hdName (sc : Scope) : Option Nat → Option Str → Bool
  | none, none => true
  | some i, some y => decide (N[i]? = some y) && onlyLocB sc y
  | _, _ => false
/-- op= -/
def auM : Bo → Operator → Bool
  | .add, .Add => true
  | .sub, .Sub => true
  | _, _ => false
mutual
def mS (sc : Scope) (hot : Bool) : As → Stmt → Bool
  | .ex e, .Expr x _ => mE (L.at hot) N sc e x && notComp x
  | .set (.nm i) e, .Assign [.Name x _] v _ => decide (N[i]? = some x) && locB sc x && mE (L.at hot) N sc e v
  | .set (.tp gs) e, .Assign [.Tuple ts _ _] v _ => !hot && mGs (L.at hot) N (fun _ => true) sc gs ts && mE (L.at hot) N sc e v && notComp v && swOk N sc gs ts v
  | .put o i e, .Assign [.Subscript ox ix _] v _ => mE (L.at hot) N sc o ox && mE (L.at hot) N sc i ix && mE (L.at hot) N sc e v
  | .aug i op e, .AugAssign (.Name x _) o v _ => decide (N[i]? = some x) && locB sc x && auM op o && mE (L.at hot) N sc e v
  | .augs o i op e, .AugAssign (.Subscript ox ix _) q v _ => mE (L.at hot) N sc o ox && mE (L.at hot) N sc i ix && auM op q && mE (L.at hot) N sc e v
  | .ite c a b, .If x p q _ => mE (L.at hot) N sc c x && mSs sc hot a p && mSs sc hot b q
  | .whl c b, .While x p [] _ => !hot && mE (L.at hot) N sc c x && mSs sc hot b p
  | .for g it b, .For tg iter p [] _ => !hot && mG (L.at hot) N (fun _ => true) sc g tg && mI (L.at hot) N sc tg it iter && mSs sc hot b p
  | .ret e, .Return (some x) _ => mE (L.at hot) N sc e x
  | .retN, .Return none _ => true
  | .rais c e false, .Raise (some (.Call (.Name x _) [a] [] _)) none _ => !hot && decide (c = x) && gloB sc x && L.exc.contains c && mE (L.at hot) N sc e a
  | .try b hs, .Try body (h :: hds) [] [] _ => !hot && mSs sc hot b body && mHs sc hs (h :: hds)
  | .brk, .Break _ => true
  | .cnt, .Continue _ => true
  | .pas, .Pass _ => true
  | _, _ => false
def mSs (sc : Scope) (hot : Bool) : Ass → List Stmt → Bool
  | .nil, [] => true
  | .cons s ss, x :: xs => mS sc hot s x && mSs sc hot ss xs
  | _, _ => false
def mHs (sc : Scope) : Ahs → List ExceptHandler → Bool
  | .nil, [] => true
  | .cons t n b hs, .ExceptHandler (some (.Name x _)) nm (st :: suite) _ :: hds => decide (t = x) && gloB sc x && L.exc.contains t && hdName N sc n nm && mSs sc true b (st :: suite) && mHs sc hs hds
  | _, _ => false
end
end
/-- what holds of a def's context -/
structure Cs (L : Lk) (P : Pg) (cl : Calls) (W : WX) (X : Cx) : Prop where
  g : Cg L P cl W X
  kind : X.env.scope.kind = .function
  fn : ∀ x, X.fn x = true
  po : L.hot = false → PassesOwn (model X.prog X.w) X.A X.env X.xe
  stk : L.hot = false → X.stack = X.env :: X.outer
  frm : X.env.frame = some X.env.locals
  rs : L.hot = false → ∀ c ∈ L.exc, RaisK X c ∧ c ∈ P.exc
  hd : ∀ t ∈ L.exc, ∃ T, X.mg t = some (.ref T) ∧ ∀ c ∈ P.exc, ∀ C, X.mg c = some (.ref C) → PySem.W.exmOne X.K (.ref C) (.ref T) = some (subT P.exc c t)
/-- o[i] = v: a list, a dict -/
def rSetAny : TSet := fun o i v H Q => rSetL o i v H Q ∨ ∃ a H', o = .ref a ∧ DPut H a i v H' ∧ Q H'
theorem set_any {X : Cx} (hu : X.A.units + 64 < cLine) : PSet X rSetAny := by
  intro pins s σ H o i v ov iv vv Q I r1 r2 r3 h
  rcases h with h | ⟨a, H', rfl, hd, q⟩
  · exact set_list pins s σ H o i v ov iv vv Q I r1 r2 r3 h
  · obtain rfl : ov = Value.ref a := r1
    exact d_setItem (Nat.lt_of_le_of_lt (by omega) hu) I hd r2 r3 fun s' I' => ⟨H', I', q⟩
theorem put_any {K : Wr} {Z : List Addr} {G : Hp} {ι : List Addr} {h h' : MH} {H : Hp} {o i x : PV} {vo vi vx : V} (R : HR K Z G ι h H) (ro : RV K G ι o vo) (ri : RV K G ι i vi) (rx : RV K G ι x vx) (e : putop o i x h = some h') {Q : Hp → Prop} (p : ∀ G' ι' H', Nx K Z G ι H G' ι' h' H' → Q H') : rSetAny vo vi vx H Q := by
  unfold putop at e
  split at e
  · rename_i n kk
    split at e
    · rename_i xs ex
      split at e
      · rename_i j ej
        cases e
        obtain ⟨ad, vs, rfl, hn, hH, rvs⟩ := ref_lst R ro ex
        exact .inl ⟨ad, vs, kk, j, rfl, ri.int_inv, hH, by rw [← rvs.length]; exact ej, put_lst R hn hH (rvs.set rx j) p⟩
      · cases e
    · rename_i kvs ex
      split at e
      · rename_i hz
        cases e
        obtain ⟨ad, qs, rfl, hn, hH, rk⟩ := ref_dic R ro ex
        exact .inr ⟨ad, _, rfl, .inl ⟨qs, .inl kk, hH, keyV ri rfl, by rw [← rk.length]; exact hz, rfl⟩, put_dic R hn hH (rk.put (.inl kk) rx) p⟩
      · cases e
    · cases e
  · rename_i n kk
    split at e
    · rename_i kvs ex
      split at e
      · rename_i hz
        cases e
        obtain ⟨ad, qs, rfl, hn, hH, rk⟩ := ref_dic R ro ex
        exact .inr ⟨ad, _, rfl, .inl ⟨qs, .inr kk, hH, keyV ri rfl, by rw [← rk.length]; exact hz, rfl⟩, put_dic R hn hH (rk.put (.inr kk) rx) p⟩
      · cases e
    · cases e
  · cases e
section
variable {L : Lk} {P : Pg} {cl : Calls}
theorem Cs.tr {W W' : WX} {X : Cx} (C : Cs (L.at false) P cl W X) (pn : List (Addr × Obj)) (xe : Value → Shared → Prop) (tk : Takes (X.tr pn xe) W') (po : PassesOwn (model X.prog X.w) X.A X.env xe) : Cs (L.at false) P cl W' (X.tr pn xe) :=
  ⟨⟨C.g.nd, C.g.calm, C.g.gd, C.g.un, C.g.un5, C.g.free, C.g.gcd, C.g.con, tk, C.g.fns, C.g.fnd, C.g.xf⟩, C.kind, C.fn, fun _ => po, C.stk, C.frm, C.rs, C.hd⟩
theorem Cs.suite {W : WX} {X : Cx} (C : Cs (L.at false) P cl W X) (a : Addr) (pn : List (Addr × Obj)) : Cs (L.at true) P cl W0 (X.suite a pn) :=
  ⟨⟨C.g.nd, fun h => (by cases h), C.g.gd, C.g.un, C.g.un5, C.g.free, C.g.gcd, C.g.con, takesN, fun h => (by cases h), C.g.fnd, C.g.xf⟩, C.kind, C.fn, fun h => (by cases h), fun h => (by cases h), C.frm, fun h => (by cases h), C.hd⟩
section
variable {W : WX} {X : Cx}
theorem tSet_weak {exc : List Str} {K : Wr} {i : Nat} {r : Env' → MH → Res PV} {D : Ends} {σ : L2.St} {H : Hp} (q : tS exc K W (fun ρ h => (r ρ h).out ρ fun x h => match bindG (.nm i) x ρ h with
    | some ρ' => .nx ρ' h
    | none => .stuck) D σ H) : tE exc K W r σ H (fun x H1 => gName i x σ H1 D.nx) := by
  obtain ⟨Z, G, ι, h, ρ, R, S, p⟩ := q
  refine ⟨Z, G, ι, h, ρ, R, S, p.out S fun x h1 G1 ι1 H1 vx n1 rx p1 => ?_⟩
  unfold bindG at p1
  split at p1
  · rename_i ρ' e
    split at e
    · cases e
      exact OP.nx_here p1 n1.hr ((S.mono n1.same n1.pre).set rx)
    · cases e
  · exact p1.elim
theorem sSetC {i : Nat} {a : Ae} {hot : Bool} (C : Cs (L.at hot) P cl W X) {x : Str} {v : Expr} {p pos : Pos} (hN : X.N[i]? = some x) (hl : locB X.env.scope x = true) (hm : mE (L.at hot) X.N X.env.scope a v = true) :
    PS X (.Assign [.Name x p] v pos) (tS P.exc (kx X) W fun ρ h => (ev P cl a ρ h).out ρ fun x h => match bindG (.nm i) x ρ h with
      | some ρ' => .nx ρ' h
      | none => .stuck) := by
  by_cases hs : swapsWith v (some (.Name x p)) pos.line X.env = pure false
  · exact (ps_set C.g.nd hN (loc_of hl) (sX a C.g hm).1 hs (.inl (C.fn x))).weak fun D σ H q => tSet_weak q
  · cases v <;> try (exact absurd (sw_none rfl _ _ _) hs)
    · rename_i elt gens scope cp
      have e := sw_comp (elt := elt) (gs := gens) (scope := scope) (p := cp) (pos := p) (t := x) (l := pos.line) C.kind
      cases hb : (X.env.scope.names.lookup x == some .local && p.line == cp.line && !(scope.names.any fun (n, k) => n == x && (k == .local || k == .cell))) with
      | false => rw [hb] at e; exact absurd e hs
      | true =>
        rw [hb] at e
        have hyl : X.env.scope.names.lookup x = some .local := by
          simp only [Bool.and_eq_true, beq_iff_eq] at hb
          exact hb.1.1
        cases a <;> try (cases hm; done)
        · rename_i r ee g it ifs own
          rcases gens with _ | ⟨⟨tg, iter, fs, asy⟩, _ | _⟩
          · cases hm
          · by_cases hz : asy = 0
            · subst hz
              simp only [mE, Bool.and_eq_true, decide_eq_true_eq, Bool.not_eq_true'] at hm
              obtain ⟨⟨⟨⟨⟨⟨h0, h1⟩, h2⟩, h3⟩, h4⟩, h5⟩, h6⟩ := hm
              have hc := C.g.calm h0
              refine (ps_setLc (wi := tI P.exc (kx X) W (evi P cl it)) (g := tG (kx X) g) (tt := tT P.exc (kx X) W0 (evIfs P cl ifs)) (te := tE P.exc (kx X) W0 (ev P cl ee)) hc C.g.nd hN hyl e (sI (tg := tg) it C.g h3).1 (blkOk_by h1) (fun s H C' cls fp => ?_) (fun s H C' cls fp => ?_) (fun s H C' cls fp => ?_) (sI (tg := tg) it C.g h3).2).weak fun D σ H q => ?_
              · exact sG (X := X.blk s H scope (compEnvC scope cls C' X.env) fp) hc C.g.nd (fun x hx => hx) h4
              · exact sIfs ifs (C.g.blk s H scope (compEnvC scope cls C' X.env) fp) h5
              · exact (sX ee (C.g.blk s H scope (compEnvC scope cls C' X.env) fp) h6).1
              · exact tLc_weak h2 (tSet_weak q)
            · exact absurd hm (by simp [mE, hz])
          · exact absurd hm (by simp [mE])
        · rename_i r ee g it g2 it2 own vs2
          rcases gens with _ | ⟨⟨tg, iter, fs, asy⟩, _ | ⟨⟨tg2, iter2, fs2, asy2⟩, _ | _⟩⟩
          · cases hm
          · rcases fs with _ | _ <;> exact absurd hm (by simp [mE])
          · rcases fs with _ | _
            · rcases fs2 with _ | _
              · by_cases hz : asy = 0
                · by_cases hz2 : asy2 = 0
                  · subst hz; subst hz2
                    simp only [mE, Bool.and_eq_true, decide_eq_true_eq, Bool.not_eq_true'] at hm
                    obtain ⟨⟨⟨⟨⟨⟨⟨⟨⟨⟨h0, h1⟩, h2⟩, h3⟩, h4⟩, h5⟩, h6⟩, h7⟩, h8⟩, h9⟩, h10⟩ := hm
                    have hc := C.g.calm h0
                    refine (ps_setLc2 (wi := tI P.exc (kx X) W (evi P cl it)) (g := tG (kx X) g) (tt := tT P.exc (kx X) W0 fun _ h => .ok true h) (wi1 := tI P.exc (kx X) W0 (evi P cl it2)) (g1 := tG (kx X) g2) (tt1 := tT P.exc (kx X) W0 fun _ h => .ok true h) (te := tE P.exc (kx X) W0 (ev P cl ee)) hc C.g.nd hN hyl e (sI (tg := tg) it C.g h6).1 (blkOk_by h1) h4 (fun s H C' cls fp => ?_) (fun s H C' cls fp => mt_none) (fun s H C' cls fp => ?_) (fun s H C' cls fp => ?_) (fun s H C' cls fp => mt_none) (fun s H C' cls fp => ?_) (sI (tg := tg) it C.g h6).2 (mI_fold h8)).weak fun D σ H q => ?_
                    · exact sG (X := X.blk s H scope (compEnvC scope cls C' X.env) fp) hc C.g.nd (fun x hx => hx) h7
                    · exact (sI (tg := tg2) it2 (C.g.blk s H scope (compEnvC scope cls C' X.env) fp) h8).1
                    · exact sG (X := X.blk s H scope (compEnvC scope cls C' X.env) fp) hc C.g.nd (fun x hx => hx) h9
                    · exact (sX ee (C.g.blk s H scope (compEnvC scope cls C' X.env) fp) h10).1
                    · exact tLc2_weak h2 h3 (tSet_weak q)
                  · exact absurd hm (by simp [mE, hz2])
                · exact absurd hm (by simp [mE, hz])
              · exact absurd hm (by simp [mE])
            · exact absurd hm (by simp [mE])
          · exact absurd hm (by rcases fs with _ | _ <;> rcases fs2 with _ | _ <;> simp [mE])
    · cases a <;> cases hm
    · rename_i ke ve gens scope cp
      have e := sw_dcomp (ke := ke) (ve := ve) (gs := gens) (scope := scope) (p := cp) (pos := p) (t := x) (l := pos.line) C.kind
      cases hb : (X.env.scope.names.lookup x == some .local && p.line == cp.line && !(scope.names.any fun (n, k) => n == x && (k == .local || k == .cell))) with
      | false => rw [hb] at e; exact absurd e hs
      | true =>
        rw [hb] at e
        have hyl : X.env.scope.names.lookup x = some .local := by
          simp only [Bool.and_eq_true, beq_iff_eq] at hb
          exact hb.1.1
        cases a <;> try (cases hm; done)
        rename_i k v g it ifs own
        rcases gens with _ | ⟨⟨tg, iter, fs, asy⟩, _ | _⟩
        · cases hm
        · by_cases hz : asy = 0
          · subst hz
            simp only [mE, Bool.and_eq_true, decide_eq_true_eq, Bool.not_eq_true'] at hm
            obtain ⟨⟨⟨⟨⟨⟨⟨h0, h1⟩, h2⟩, h3⟩, h4⟩, h5⟩, h6⟩, h7⟩ := hm
            have hc := C.g.calm h0
            refine (ps_setDc (wi := tI P.exc (kx X) W (evi P cl it)) (g := tG (kx X) g) (tt := tT P.exc (kx X) W0 (evIfs P cl ifs)) (tk := tE P.exc (kx X) W0 (ev P cl k)) (tv := tE P.exc (kx X) W0 (ev P cl v)) hc C.g.nd hN hyl e (sI (tg := tg) it C.g h3).1 (blkOk_by h1) (fun s H C' cls fp => ?_) (fun s H C' cls fp => ?_) (fun s H C' cls fp => ?_) (fun s H C' cls fp => ?_) (sI (tg := tg) it C.g h3).2).weak fun D σ H q => ?_
            · exact sG (X := X.blk s H scope (compEnvC scope cls C' X.env) fp) hc C.g.nd (fun x hx => hx) h4
            · exact sIfs ifs (C.g.blk s H scope (compEnvC scope cls C' X.env) fp) h5
            · exact (sX k (C.g.blk s H scope (compEnvC scope cls C' X.env) fp) h6).1
            · exact (sX v (C.g.blk s H scope (compEnvC scope cls C' X.env) fp) h7).1
            · exact tDc_weak h2 (tSet_weak q)
          · exact absurd hm (by simp [mE, hz])
        · exact absurd hm (by simp [mE])
theorem sSetT {gs : Ags} {a : Ae} (C : Cs (L.at false) P cl W X) {ts : List Expr} {v : Expr} {k : Nat} {p pos : Pos} (h1 : mGs (L.at false) X.N (fun _ => true) X.env.scope gs ts = true) (hm : mE (L.at false) X.N X.env.scope a v = true) (h3 : notComp v = true) (h4 : swOk X.N X.env.scope gs ts v = true) :
    PS X (.Assign [.Tuple ts k p] v pos) (tS P.exc (kx X) W fun ρ h => (ev P cl a ρ h).out ρ fun x h => match bindG (.tp gs) x ρ h with
      | some ρ' => .nx ρ' h
      | none => .stuck) := by
  have he := (sX a C.g hm).1
  have hsw : swapsWithSole [.Tuple ts k p] v pos.line X.env = pure false := (show swapsWith v (some (.Tuple ts k p)) pos.line X.env = pure false from sw_none h3 _ _ _)
  have plain : swappedStores [.Tuple ts k p] v X.env = pure none → PS X (.Assign [.Tuple ts k p] v pos) (tS P.exc (kx X) W fun ρ h => (ev P cl a ρ h).out ρ fun x h => match bindG (.tp gs) x ρ h with
      | some ρ' => .nx ρ' h
      | none => .stuck) := fun hw => by
    have hg : PG X (.Tuple ts k p) (tG (kx X) (.tp gs)) := sG (C.g.calm rfl) C.g.nd (fun x _ => C.fn x) (g := .tp gs) (L := L.at false) (show mG (L.at false) X.N (fun _ => true) X.env.scope (.tp gs) (.Tuple ts k p) = true from h1)
    refine (ps_asg he hg hsw hw).weak fun D σ H q => ?_
    obtain ⟨Z, G, ι, h, ρ, R, S, p⟩ := q
    refine ⟨Z, G, ι, h, ρ, R, S, p.out S fun x h1 G1 ι1 H1 vx n1 rx p1 => ?_⟩
    split at p1
    · rename_i ρ' e
      exact ⟨Z, G1, ι1, h1, ρ, x, ρ', n1.hr, S.mono n1.same n1.pre, rx, e, fun σ' S' _ _ => OP.nx_here p1 n1.hr S'⟩
    · exact p1.elim
  by_cases hv : isTup v = false
  · exact plain (swN_ok hv)
  · cases v <;> try (exact absurd rfl hv)
    rename_i vs k2 p2
    simp only [swOk] at h4
    split at h4
    · rename_i e
      exact plain (swK_ok C.kind e)
    · rename_i ns e
      split at h4
      · rename_i is ei
        simp only [Bool.and_eq_true, decide_eq_true_eq, List.all_eq_true] at h4
        obtain ⟨⟨q1, q2⟩, q3⟩ := h4
        refine (ps_swap (C.g.calm rfl) C.g.nd he (swK_ok C.kind e) hsw q1 (fun n hn => onlyLoc_of (q2 n hn)) q3).weak fun D σ H q => ?_
        obtain ⟨Z, G, ι, h, ρ, R, S, p⟩ := q
        refine ⟨Z, G, ι, h, ρ, R, S, p.out S fun x h1 G1 ι1 H1 vx n1 rx p1 => ?_⟩
        split at p1
        · rename_i ρ' eb
          unfold bindG at eb
          split at eb
          · rename_i ys ey
            obtain ⟨a, vv, rfl, hs, rvs⟩ := (items_of n1.hr rx ey).sq
            obtain ⟨b1, b2⟩ := bind_nms (K := kx X) (G := G1) (ι := ι1) ei eb
            exact ⟨a, vv, rfl, hs, by rw [← rvs.length, b1], OP.nx_here p1 n1.hr (b2 (S.mono n1.same n1.pre) rvs)⟩
          · cases eb
        · exact p1.elim
      · cases h4
    · cases h4
theorem sPut {o i e : Ae} {hot : Bool} (C : Cs (L.at hot) P cl W X) {ox ix v : Expr} {p pos : Pos} (h1 : mE (L.at hot) X.N X.env.scope o ox = true) (h2 : mE (L.at hot) X.N X.env.scope i ix = true) (h3 : mE (L.at hot) X.N X.env.scope e v = true) :
    PS X (.Assign [.Subscript ox ix p] v pos) (tS P.exc (kx X) W fun ρ h => (ev P cl e ρ h).out ρ fun x h => (ev P cl o ρ h).out ρ fun a h => (ev P cl i ρ h).out ρ fun k h => match putop a k x h with
      | some h => .nx ρ h
      | none => .stuck) := by
  have hslice := ok_slice (mE_ok h2)
  refine (ps_asg (sX e C.g h3).1 (pg_sub (sX o C.g h1).1 (sX i C.g h2).1 (set_any C.g.un) (fun v => by cases ix <;> first | rfl | cases hslice)) (show swapsWith v (some (.Subscript ox ix p)) pos.line X.env = pure false from sw_sub) swS_ok).weak fun D σ H q => ?_
  obtain ⟨Z, G, ι, h, ρ, R, S, p⟩ := q
  refine ⟨Z, G, ι, h, ρ, R, S, p.out S fun x h1 G1 ι1 H1 vx n1 rx p1 => ?_⟩
  have S1 := S.mono n1.same n1.pre
  refine ⟨Z, G1, ι1, h1, ρ, n1.hr, S1, p1.out S1 fun a h2 G2 ι2 H2 va n2 ra p2 => ?_⟩
  have S2 := S1.mono n2.same n2.pre
  refine ⟨Z, G2, ι2, h2, ρ, n2.hr, S2, p2.out S2 fun k h3 G3 ι3 H3 vk n3 rk p3 => ?_⟩
  have S3 := S2.mono n3.same n3.pre
  split at p3
  · rename_i h' eh
    exact put_any n3.hr (ra.mono n3.same n3.pre) rk (rx.mono (n2.same.trans n3.same) (n2.pre.trans n3.pre)) eh (Q := fun H' => D.nx σ H') fun G' ι' H' n4 => p3 G' ι' H' σ n4 (S3.mono n4.same n4.pre)
  · exact p3.elim
/-- op=, by values -/
def rAug : Bo → V → V → Hp → VK → Prop
  | .add, x, y, H, Q => (∃ i j, x = .int i ∧ y = .int j ∧ Q (.int (i + j)) H) ∨ ∃ i j, x = .str i ∧ y = .str j ∧ i.length + j.length ≤ sizeLine ∧ Q (.str (i ++ j)) H
  | .sub, x, y, H, Q => ∃ i j, x = .int i ∧ y = .int j ∧ Q (.int (i - j)) H
  | _, _, _, _, _ => False
theorem ip_aug {bo : Bo} {op : Operator} (hm : auM bo op = true) : PIp X op (rAug bo) := by
  cases bo <;> cases op <;> first | cases hm | skip
  · intro pins s σ H x y u v Q I rx ry h
    rcases h with h | h
    · exact ip_add pins s σ H x y u v Q I rx ry h
    · exact iop_add_str pins s σ H x y u v Q I rx ry h
  · intro pins s σ H x y u v Q I rx ry h
    exact ip_sub pins s σ H x y u v Q I rx ry h
theorem aug_ok {exc : List Str} {K : Wr} {Z : List Addr} {G : Hp} {ι : List Addr} {h : MH} {H : Hp} {bo : Bo} {x y : PV} {vx vy : V} {Q : VK} {E : XK} (R : HR K Z G ι h H) (rx : RV K G ι x vx) (ry : RV K G ι y vy) (p : RP exc K (rV K) Z G ι H (augop bo x y h) Q E) : rAug bo vx vy H Q := by
  unfold augop at p
  split at p
  · rw [rx.int_inv, ry.int_inv]
    exact .inl ⟨_, _, rfl, rfl, RP.ok_here p R (.int _)⟩
  · rw [rx.int_inv, ry.int_inv]
    exact ⟨_, _, rfl, rfl, RP.ok_here p R (.int _)⟩
  · rw [rx.str_inv, ry.str_inv]
    split at p
    · rename_i hl
      exact .inr ⟨_, _, rfl, rfl, hl, RP.ok_here p R (.str _)⟩
    · exact p.elim
  · exact p.elim
theorem Res.out_rp {exc : List Str} {K : Wr} {Z : List Addr} {G : Hp} {ι : List Addr} {H : Hp} {α β : Type} {Rel : Hp → List Addr → α → β → Prop} {r : Res α} {ρ : Env'} {f : α → MH → Out} {D : Ends} {W : WX} {σ : L2.St} (S : SR K G ι ρ σ) (p : OP exc K W Z G ι H (r.out ρ f) D)
    {Q1 : β → Hp → Prop} (k : ∀ a h1 G1 ι1 H1 b, Nx K Z G ι H G1 ι1 h1 H1 → Rel G1 ι1 a b → OP exc K W Z G1 ι1 H1 (f a h1) D → Q1 b H1) : RP exc K Rel Z G ι H r Q1 (fun cls d H' => W cls d σ H') := p.out S k
def rAugG (K : PySem.W.Frag) : V → V → Hp → VK → Prop := fun x y H Q => ∃ p xs i v, x = .ref p ∧ y = .int i ∧ SqL K H p xs ∧ 0 ≤ i ∧ xs[i.toNat]? = some v ∧ Q v H
theorem get_lst {X : Cx} : PGet X (rAugG X.K) := by
  rintro pins s σ H o i ov iv Q I r1 r2 ⟨p, xs, j, v, rfl, rfl, hq, h0, he, q⟩
  obtain rfl : ov = Value.ref p := r1
  obtain ⟨t, rfl⟩ := (show ∃ t, iv = Value.int j t from r2)
  obtain ⟨its, r, pl, hz⟩ := I.list hq
  obtain ⟨w, ew, rw'⟩ := r.get he
  have hl := r.length
  have h1 := (List.getElem?_eq_some_iff.mp he).1
  have h2 : xs.length ≤ sizeLine := hz
  have h3 := line63
  exact wpAny_getItem_list pl.isList h0 (by omega) (by simpa using ew) ⟨v, H, I, rw', q⟩
theorem augix_ok {exc : List Str} {K : Wr} {Z : List Addr} {G : Hp} {ι : List Addr} {h : MH} {H : Hp} {x y : PV} {vx vy : V} {Q : VK} {E : XK} (R : HR K Z G ι h H) (rx : RV K G ι x vx) (ry : RV K G ι y vy) (p : RP exc K (rV K) Z G ι H (augix x y h) Q E) : rAugG K.K vx vy H Q := by
  unfold augix at p
  split at p
  · rename_i n j
    split at p
    · rename_i xs ex
      split at p
      · rename_i h0
        split at p
        · rename_i y ey
          obtain ⟨ad, vs, rfl, hn, hH, rvs⟩ := ref_lst R rx ex
          obtain ⟨v, e2, r2⟩ := rvs.get ey
          exact ⟨ad, vs, j, v, rfl, ry.int_inv, .inl (.inl hH), h0, e2, RP.ok_here p R r2⟩
        · exact p.elim
      · exact p.elim
    · exact p.elim
  · exact p.elim
theorem sAug {e : Ae} {i : Nat} {bo : Bo} {op : Operator} {hot : Bool} (C : Cs (L.at hot) P cl W X) {x : Str} {v : Expr} {p pos : Pos} (hN : X.N[i]? = some x) (hl : locB X.env.scope x = true) (ho : auM bo op = true) (hm : mE (L.at hot) X.N X.env.scope e v = true) :
    PS X (.AugAssign (.Name x p) op v pos) (tS P.exc (kx X) W (run1 P cl (.aug i bo e))) := by
  refine (ps_aug C.g.nd hN (loc_of hl) (sX e C.g hm).1 (ip_aug ho) (.inl (C.fn x))).weak fun D σ H q => ?_
  obtain ⟨Z, G, ι, h, ρ, R, S, p⟩ := q
  unfold run1 at p
  split at p
  · rename_i x0 e0
    obtain ⟨v0, e1, r0⟩ := S.2 i x0 e0
    refine ⟨v0, e1, Z, G, ι, h, ρ, R, S, p.out S fun y h1 G1 ι1 H1 vy n1 ry p1 => ?_⟩
    have S1 := S.mono n1.same n1.pre
    exact aug_ok n1.hr (r0.mono n1.same n1.pre) ry (p1.out S1 fun z h2 G2 ι2 H2 vz n2 rz p2 => OP.nx_here p2 n2.hr ((S1.mono n2.same n2.pre).set rz))
  · exact p.elim
theorem sAugS {o i e : Ae} {bo : Bo} {op : Operator} {hot : Bool} (C : Cs (L.at hot) P cl W X) {ox ix v : Expr} {p pos : Pos} (h1 : mE (L.at hot) X.N X.env.scope o ox = true) (h2 : mE (L.at hot) X.N X.env.scope i ix = true) (ho : auM bo op = true) (h3 : mE (L.at hot) X.N X.env.scope e v = true) :
    PS X (.AugAssign (.Subscript ox ix p) op v pos) (tS P.exc (kx X) W (run1 P cl (.augs o i bo e))) := by
  have hslice := ok_slice (mE_ok h2)
  refine (ps_augS (sX o C.g h1).1 (sX i C.g h2).1 get_lst (sX e C.g h3).1 (ip_aug ho) (set_any C.g.un) (fun ov iv new => by cases ix <;> first | rfl | cases hslice)).weak fun D σ H q => ?_
  obtain ⟨Z, G, ι, h, ρ, R, S, p⟩ := q
  unfold run1 at p
  refine ⟨Z, G, ι, h, ρ, R, S, p.out S fun a h1 G1 ι1 H1 va n1 ra p1 => ?_⟩
  have S1 := S.mono n1.same n1.pre
  refine ⟨Z, G1, ι1, h1, ρ, n1.hr, S1, p1.out S1 fun k h2 G2 ι2 H2 vk n2 rk p2 => ?_⟩
  have S2 := S1.mono n2.same n2.pre
  refine augix_ok n2.hr (ra.mono n2.same n2.pre) rk (p2.out S2 fun x h3 G3 ι3 H3 vx n3 rx p3 => ?_)
  have S3 := S2.mono n3.same n3.pre
  refine ⟨Z, G3, ι3, h3, ρ, n3.hr, S3, p3.out S3 fun y h4 G4 ι4 H4 vy n4 ry p4 => ?_⟩
  have S4 := S3.mono n4.same n4.pre
  refine aug_ok n4.hr (rx.mono n4.same n4.pre) ry (p4.out S4 fun z h5 G5 ι5 H5 vz n5 rz p5 => ?_)
  have S5 := S4.mono n5.same n5.pre
  split at p5
  · rename_i h' eh
    have m1 := ((n3.same.trans n4.same).trans n5.same)
    have m2 := ((n3.pre.trans n4.pre).trans n5.pre)
    exact put_any n5.hr (ra.mono (n2.same.trans m1) (n2.pre.trans m2)) (rk.mono m1 m2) rz eh (Q := fun H' => D.nx σ H') fun G' ι' H' n6 => p5 G' ι' H' σ n6 (S5.mono n6.same n6.pre)
  · exact p5.elim
theorem tst_eq (c : Ae) : tst P cl c = truR (ev P cl c) := rfl
end
mutual
theorem sS : ∀ (a : As) {hot : Bool} {W : WX} {X : Cx} (C : Cs (L.at hot) P cl W X) {st : Stmt}, mS L X.N X.env.scope hot a st = true → PS X st (tS P.exc (kx X) W (run1 P cl a))
  | .ex e, hot, W, X, C, st, hm => by
    cases st <;> try (cases hm; done)
    simp only [mS, Bool.and_eq_true] at hm
    refine (ps_expr (sX e C.g hm.1).1 (sw_none hm.2 _ _ _)).weak fun D σ H q => ?_
    obtain ⟨Z, G, ι, h, ρ, R, S, p⟩ := q
    unfold run1 at p
    exact ⟨Z, G, ι, h, ρ, R, S, p.out S fun x h1 G1 ι1 H1 vx n1 rx p1 => OP.nx_here p1 n1.hr (S.mono n1.same n1.pre)⟩
  | .set g e, hot, W, X, C, st, hm => by
    cases st <;> try (cases g <;> cases hm; done)
    rename_i tgs v pos
    rcases tgs with _ | ⟨tg, _ | _⟩ <;> try (cases g <;> cases hm; done)
    · cases g with
      | nm i =>
        cases tg <;> try (cases hm; done)
        simp only [mS, Bool.and_eq_true, decide_eq_true_eq] at hm
        exact sSetC C hm.1.1 hm.1.2 hm.2
      | tp gs =>
        cases tg <;> try (cases hm; done)
        simp only [mS, Bool.and_eq_true, Bool.not_eq_true'] at hm
        obtain ⟨⟨⟨⟨rfl, h1⟩, h2⟩, h3⟩, h4⟩ := hm
        exact sSetT C h1 h2 h3 h4
    · cases g <;> (cases tg <;> cases hm)
  | .put o i e, hot, W, X, C, st, hm => by
    cases st <;> try (cases hm; done)
    rename_i tgs v pos
    rcases tgs with _ | ⟨tg, _ | _⟩ <;> try (cases hm; done)
    · cases tg <;> try (cases hm; done)
      simp only [mS, Bool.and_eq_true] at hm
      exact sPut C hm.1.1 hm.1.2 hm.2
    · cases tg <;> cases hm
  | .aug i op e, hot, W, X, C, st, hm => by
    cases st <;> try (cases hm; done)
    rename_i tg o v pos
    cases tg <;> try (cases hm; done)
    simp only [mS, Bool.and_eq_true, decide_eq_true_eq] at hm
    exact sAug C hm.1.1.1 hm.1.1.2 hm.1.2 hm.2
  | .augs o i op e, hot, W, X, C, st, hm => by
    cases st <;> try (cases hm; done)
    rename_i tg q v pos
    cases tg <;> try (cases hm; done)
    simp only [mS, Bool.and_eq_true] at hm
    exact sAugS C hm.1.1.1 hm.1.1.2 hm.1.2 hm.2
  | .ite c a b, hot, W, X, C, st, hm => by
    cases st <;> try (cases hm; done)
    simp only [mS, Bool.and_eq_true] at hm
    refine (ps_if (sX c C.g hm.1.1).2 (sSs a C hm.1.2) (sSs b C hm.2)).weak fun D σ H q => ?_
    obtain ⟨Z, G, ι, h, ρ, R, S, p⟩ := q
    unfold run1 at p
    refine ⟨Z, G, ι, h, ρ, R, S, p.out S fun t h1 G1 ι1 H1 t' n1 et p1 => ?_⟩
    cases et
    cases t with
    | true => exact ⟨Z, G1, ι1, h1, ρ, n1.hr, S.mono n1.same n1.pre, p1⟩
    | false => exact ⟨Z, G1, ι1, h1, ρ, n1.hr, S.mono n1.same n1.pre, p1⟩
  | .whl c b, hot, W, X, C, st, hm => by
    cases st <;> try (cases hm; done)
    rename_i x bd els pos
    cases els with
    | cons _ _ => cases hm
    | nil =>
      simp only [mS, Bool.and_eq_true, Bool.not_eq_true'] at hm
      obtain ⟨⟨rfl, h1⟩, h2⟩ := hm
      refine (ps_while (C.po rfl) (sX c C.g h1).2 (sSs b C h2)).weak fun D σ H q => ?_
      obtain ⟨Z, G, ι, h, ρ, R, S, p⟩ := q
      unfold run1 whlE at p
      split at p
      · rename_i ex
        refine ⟨fun m σ H' => ∃ G2 ι2 h2 ρ2, HR (kx X) Z G2 ι2 h2 H' ∧ SR (kx X) G2 ι2 ρ2 σ ∧ OP P.exc (kx X) W Z G2 ι2 H' (whlN (tst P cl c) (runs P cl b) m ρ2 h2) D, ⟨_, G, ι, h, ρ, R, S, p⟩, ?_⟩
        rintro m σ H ⟨G2, ι2, h2, ρ2, R2, S2, p2⟩
        cases m with
        | zero => exact p2.elim
        | succ m =>
          unfold whlN at p2
          refine ⟨Z, G2, ι2, h2, ρ2, R2, S2, p2.out S2 fun t h3 G3 ι3 H3 t' n3 et p3 => ?_⟩
          cases et
          have S3 := S2.mono n3.same n3.pre
          cases t with
          | false => exact OP.nx_here p3 n3.hr S3
          | true =>
            refine ⟨fun σ' H' => ∃ G2 ι2 h2 ρ2, HR (kx X) Z G2 ι2 h2 H' ∧ SR (kx X) G2 ι2 ρ2 σ' ∧ OP P.exc (kx X) W Z G2 ι2 H' (whlN (tst P cl c) (runs P cl b) m ρ2 h2) D, fun σ' H' w => ⟨m, Nat.lt_succ_self _, w⟩, Z, G3, ι3, h3, ρ2, n3.hr, S3, ?_⟩
            exact OP.turn (o := runs P cl b ρ2 h3) p3 fun ρ4 h4 G4 ι4 H4 σ4 n4 S4 p4 => ⟨G4, ι4, h4, ρ4, n4.hr, S4, p4⟩
      · exact p.elim
  | .for g it b, hot, W, X, C, st, hm => by
    cases st <;> try (cases hm; done)
    rename_i tg iter bd els pos
    cases els with
    | cons _ _ => cases hm
    | nil =>
      simp only [mS, Bool.and_eq_true, Bool.not_eq_true'] at hm
      obtain ⟨⟨⟨rfl, h1⟩, h2⟩, h3⟩ := hm
      have hc := C.g.calm rfl
      have hg : PG X tg (tG (kx X) g) := sG hc C.g.nd (fun x _ => C.fn x) h1
      refine (ps_for (C.po rfl) hc (sI (tg := tg) it C.g h2).1 hg (sSs b C h3) (sI (tg := tg) it C.g h2).2).weak fun D σ H q => ?_
      obtain ⟨Z, G, ι, h, ρ, R, S, p⟩ := q
      unfold run1 at p
      refine ⟨Z, G, ι, h, ρ, R, S, p.out S fun s h1 G1 ι1 H1 J n1 hJ p1 => ?_⟩
      generalize hbody : (fun (x : PV) (ρ : Env') (h : MH) => match bindG g x ρ h with
        | some ρ' => runs P cl b ρ' h
        | none => Out.stuck) = body at p1
      refine ⟨fun i m σ H' => m = s.2.length - i ∧ i ≤ s.2.length ∧ ∃ G2 ι2 h2 ρ2, Up G1 G2 ∧ Pre ι1 ι2 ∧ HR (kx X) Z G2 ι2 h2 H' ∧ SR (kx X) G2 ι2 ρ2 σ ∧ OP P.exc (kx X) W Z G2 ι2 H' (forL body s.1 (s.2.drop i) ρ2 h2) D,
        ⟨_, rfl, Nat.zero_le _, G1, ι1, h1, ρ, Up.refl _, Pre.refl _, n1.hr, S.mono n1.same n1.pre, p1⟩, ?_⟩
      rintro i m σ H2 ⟨rfl, hi, G2, ι2, h2, ρ2, s2, pr2, R2, S2, p2⟩
      by_cases hlt : i < s.2.length
      · have ex : s.2[i]? = some s.2[i] := List.getElem?_eq_getElem hlt
        rw [List.drop_eq_getElem_cons hlt] at p2
        unfold forL at p2
        split at p2
        · rename_i hchk
          refine .inr ⟨hJ.go Z G2 ι2 h2 H2 i s2 pr2 R2 hchk hlt, fun σ' H' => ∃ G2 ι2 h2 ρ2, Up G1 G2 ∧ Pre ι1 ι2 ∧ HR (kx X) Z G2 ι2 h2 H' ∧ SR (kx X) G2 ι2 ρ2 σ' ∧ OP P.exc (kx X) W Z G2 ι2 H' (forL body s.1 (s.2.drop (i + 1)) ρ2 h2) D,
            fun σ' H' w => ⟨s.2.length - (i + 1), by omega, rfl, hlt, w⟩, fun xv H3 hy => ?_⟩
          obtain ⟨G3, ι3, n3, rx⟩ := hJ.yld Z G2 ι2 h2 H2 i xv H3 _ s2 pr2 R2 hchk ex hy
          have S3 := S2.mono n3.same n3.pre
          have p3 := p2.later n3
          rw [← hbody] at p3
          dsimp only at p3
          cases hb : bindG g s.2[i] ρ2 h2 with
          | none => rw [hb] at p3; exact p3.elim
          | some ρ' =>
            rw [hb] at p3
            refine ⟨Z, G3, ι3, h2, ρ2, s.2[i], ρ', n3.hr, S3, rx, hb, fun σ' S' _ _ => ⟨Z, G3, ι3, h2, ρ', n3.hr, S', ?_⟩⟩
            rw [hbody] at p3
            exact OP.turn (o := runs P cl b ρ' h2) p3 fun ρ4 h4 G4 ι4 H4 σ4 n4 S4 p4 => ⟨G4, ι4, h4, ρ4, s2.trans (n3.same.trans n4.same), pr2.trans (n3.pre.trans n4.pre), n4.hr, S4, p4⟩
        · exact p2.elim
      · have e : s.2.drop i = [] := List.drop_eq_nil_of_le (by omega)
        rw [e] at p2
        unfold forL at p2
        split at p2
        · rename_i hchk
          exact .inl ⟨hJ.stop Z G2 ι2 h2 H2 i s2 pr2 R2 hchk (by omega), OP.nx_here p2 R2 S2⟩
        · exact p2.elim
  | .ret e, hot, W, X, C, st, hm => by
    cases st <;> try (cases hm; done)
    rename_i x pos
    cases x with
    | none => cases hm
    | some x =>
      refine (ps_ret (sX e C.g (show mE (L.at hot) X.N X.env.scope e x = true from hm)).1).weak fun D σ H q => ?_
      obtain ⟨Z, G, ι, h, ρ, R, S, p⟩ := q
      unfold run1 at p
      exact ⟨Z, G, ι, h, ρ, R, S, p.out S fun x h1 G1 ι1 H1 vx n1 rx p1 => p1 G1 ι1 H1 vx (Nx.refl n1.hr) rx⟩
  | .retN, hot, W, X, C, st, hm => by
    cases st <;> try (cases hm; done)
    rename_i x pos
    cases x with
    | some _ => cases hm
    | none =>
      refine ps_retN.weak fun D σ H q => ?_
      obtain ⟨Z, G, ι, h, ρ, R, S, p⟩ := q
      unfold run1 at p
      exact p G ι H .non (Nx.refl R) .non
  | .rais c e kw, hot, W, X, C, st, hm => by
    cases st <;> try (cases kw <;> cases hm; done)
    rename_i x cause pos
    cases kw with
    | true => cases hm
    | false =>
      cases x with
      | none => cases hm
      | some x =>
        cases x <;> try (cases hm; done)
        rename_i fn xs kws p2
        cases fn <;> try (cases hm; done)
        rename_i nm p
        rcases xs with _ | ⟨a, _ | _⟩ <;> try (cases hm; done)
        · cases kws with
          | cons _ _ => cases hm
          | nil => cases cause with
            | some _ => cases hm
            | none =>
              simp only [mS, Bool.and_eq_true, decide_eq_true_eq, Bool.not_eq_true'] at hm
              obtain ⟨⟨⟨⟨rfl, rfl⟩, h2⟩, h3⟩, h4⟩ := hm
              obtain ⟨r1, r2⟩ := C.rs rfl _ (List.contains_iff_mem.mp h3)
              exact me_raise (C.g.calm rfl) C.g.tk r2 r1 (gl_of h2).1 (gl_of h2).2 (sX e C.g h4).1 (ok_star (mE_ok h4) [] X.env)
  | .try b hs, hot, W, X, C, st, hm => by
    cases st <;> try (cases hm; done)
    rename_i body hds els fin pos
    cases hds with
    | nil => cases hm
    | cons h hds => cases els with
      | cons _ _ => cases hm
      | nil => cases fin with
        | cons _ _ => cases hm
        | nil =>
          simp only [mS, Bool.and_eq_true, Bool.not_eq_true'] at hm
          obtain ⟨⟨rfl, h1⟩, h2⟩ := hm
          obtain ⟨l, hk, hw⟩ := sHs hs C h2
          refine (ps_try_own (Wout := W) (tb := fun W' => tS P.exc (kx X) W' (runs P cl b)) (C.stk rfl) C.frm C.g.nd C.g.tk (fun W' pn xe tk po => sSs b (C.tr pn xe tk po) h1) hk).weak fun D σ H q => ?_
          obtain ⟨Z, G, ι, h, ρ, R, S, p⟩ := q
          unfold run1 at p
          refine ⟨Z, G, ι, h, ρ, R, S, ?_⟩
          cases e : runs P cl b ρ h with
          | nx ρ' h' => rw [e] at p; exact p
          | bk ρ' h' => rw [e] at p; exact p
          | ct ρ' h' => rw [e] at p; exact p
          | rt v h' => rw [e] at p; exact p
          | stuck => rw [e] at p; exact p
          | exn c v ρ' h' =>
            rw [e] at p
            dsimp only at p
            split at p
            · rename_i hc'
              have hc : c ∈ P.exc := List.contains_iff_mem.mp hc'
              refine ⟨hc, fun G' ι' H' σ' Cc dd x n' S' hm' hd' rx => ?_⟩
              exact hw Z D c v ρ' G' ι' h' H' σ' Cc dd x hc n'.hr S' hm' hd' rx (OP.later p n')
            · exact p.elim
  | .brk, hot, W, X, C, st, hm => by
    cases st <;> try (cases hm; done)
    refine ps_break.weak fun D σ H q => ?_
    obtain ⟨Z, G, ι, h, ρ, R, S, p⟩ := q
    exact p G ι H σ (Nx.refl R) S
  | .cnt, hot, W, X, C, st, hm => by
    cases st <;> try (cases hm; done)
    refine ps_continue.weak fun D σ H q => ?_
    obtain ⟨Z, G, ι, h, ρ, R, S, p⟩ := q
    exact p G ι H σ (Nx.refl R) S
  | .pas, hot, W, X, C, st, hm => by
    cases st <;> try (cases hm; done)
    refine ps_pass.weak fun D σ H q => ?_
    obtain ⟨Z, G, ι, h, ρ, R, S, p⟩ := q
    exact p G ι H σ (Nx.refl R) S
theorem sSs : ∀ (a : Ass) {hot : Bool} {W : WX} {X : Cx} (C : Cs (L.at hot) P cl W X) {st : List Stmt}, mSs L X.N X.env.scope hot a st = true → PSs X st (tS P.exc (kx X) W (runs P cl a))
  | .nil, hot, W, X, C, st, hm => by
    cases st with
    | cons _ _ => cases hm
    | nil =>
      refine pss_nil.weak fun D σ H q => ?_
      obtain ⟨Z, G, ι, h, ρ, R, S, p⟩ := q
      unfold runs at p
      exact OP.nx_here p R S
  | .cons s ss, hot, W, X, C, st, hm => by
    cases st with
    | nil => cases hm
    | cons x xs =>
      simp only [mSs, Bool.and_eq_true] at hm
      refine (pss_cons (sS s C hm.1) (sSs ss C hm.2)).weak fun D σ H q => ?_
      obtain ⟨Z, G, ι, h, ρ, R, S, p⟩ := q
      unfold runs at p
      exact ⟨Z, G, ι, h, ρ, R, S, p.seq fun ρ1 h1 G1 ι1 H1 σ1 n1 S1 p1 => ⟨Z, G1, ι1, h1, ρ1, n1.hr, S1, p1⟩⟩
theorem sHs : ∀ (a : Ahs) {W : WX} {X : Cx} (C : Cs (L.at false) P cl W X) {hds : List ExceptHandler}, mHs L X.N X.env.scope a hds = true → ∃ l, HdsK X hds l ∧
    ∀ (Z : List Addr) (D : Ends) (c : Str) (v : PV) (ρ : Env') (G : Hp) (ι : List Addr) (h : MH) (H : Hp) (σ : L2.St) (Cc dd : Addr) (x : V), c ∈ P.exc → HR (kx X) Z G ι h H → SR (kx X) G ι ρ σ → X.mg c = some (.ref Cc) → G dd = some (.xd [(("value" : Str), x)]) → RV (kx X) G ι v x →
      OP P.exc (kx X) W Z G ι H (runH P cl a c v ρ h) D → wHds X.K W D l (.ref Cc) (some dd) σ H
  | .nil, W, X, C, hds, hm => by
    cases hds with
    | cons _ _ => cases hm
    | nil =>
      refine ⟨[], .nil, fun Z D c v ρ G ι h H σ Cc dd x hc R S hm' hd' rx p => ?_⟩
      unfold runH at p
      exact p.2 G ι H σ Cc dd x (Nx.refl R) S hm' hd' rx
  | .cons t n b hs, W, X, C, hds, hm => by
    cases hds with
    | nil => cases hm
    | cons hh hds =>
      obtain ⟨ty, nm, suite, pos⟩ := hh
      cases ty with
      | none => cases hm
      | some ty =>
        cases ty <;> try (cases hm; done)
        rename_i xn xp
        cases suite with
        | nil => cases hm
        | cons st suite =>
          simp only [mHs, Bool.and_eq_true, decide_eq_true_eq] at hm
          obtain ⟨⟨⟨⟨⟨rfl, h1⟩, h2⟩, h3⟩, h4⟩, h5⟩ := hm
          obtain ⟨l, hk, hw⟩ := sHs hs C h5
          obtain ⟨T, hT, hex⟩ := C.hd _ (List.contains_iff_mem.mp h2)
          have hn : HdN X nm n := by
            cases n with
            | none => cases nm with
              | none => exact trivial
              | some _ => cases h3
            | some i => cases nm with
              | none => cases h3
              | some y =>
                simp only [hdName, Bool.and_eq_true, decide_eq_true_eq] at h3
                exact ⟨h3.1, onlyLoc_of h3.2⟩
          refine ⟨(.ref T, n, tS P.exc (kx X) W0 (runs P cl b)) :: l, .cons ⟨(gl_of h1).1, (gl_of h1).2, .inl hT⟩ hn (fun a pn => sSs b (C.suite a pn) h4) hk, fun Z D c v ρ G ι h H σ Cc dd x hc R S hm' hd' rx p => ?_⟩
          refine ⟨subT P.exc c t, hex c hc Cc hm', fun hb => ⟨Cc, dd, rfl, rfl, fun a ha => ?_⟩, fun hb => ?_⟩
          · have n1 : Nx (kx X) Z G ι H (upd G a (ExV Cc dd a)) ι h (upd H a (ExV Cc dd a)) := ⟨same_upd (R.gnone ha), Pre.refl _, R.laid ha, fun z hz => upd_ne fun e => R.freshZ ha (e ▸ hz)⟩
            have S1 := S.mono n1.same n1.pre
            have p1 := p.later n1
            unfold runH at p1
            rw [if_pos hb] at p1
            cases n with
            | none => exact ⟨Z, _, ι, h, ρ, n1.hr, S1, p1.noxW⟩
            | some i =>
              dsimp only at p1
              split at p1
              · exact ⟨Z, _, ι, h, ρ.set i (some (.exn c v)), n1.hr, S1.set (.exn hm' upd_same (n1.same.exact hd' fun _ z => nomatch z) (rx.mono n1.same n1.pre)), p1.gone⟩
              · exact p1.elim
          · refine hw Z D c v ρ G ι h H σ Cc dd x hc R S hm' hd' rx ?_
            unfold runH at p
            rw [if_neg (by rw [hb]; exact Bool.false_ne_true)] at p
            exact p
end
end
end Mx

end

section
set_option Elab.async false
set_option Elab.async false
set_option linter.all false
set_option maxRecDepth 100000
set_option maxHeartbeats 8000000
/-! Defs: what their bodies do is what they promise. -/
namespace Mx
open PySem PySem.Spec PyProof.Rows L2
section
variable {K : Wr} {Z : List Addr} {G G' : Hp} {ι ι' : List Addr} {h h' : MH} {H H' : Hp}
theorem leave_ok (R0 : HR K Z G ι h H) (n : Nx K Z G ι H G' ι' h' H') {v : PV} {x : V} (r : RV K G' ι' v x) :
    ∃ G'' ι'', Up G' G'' ∧ Nx K Z G ι H G'' ι'' (leave h v h').2 H' ∧ RV K G'' ι'' (leave h v h').1 x := by
  unfold leave
  split
  · rename_i hc
    obtain ⟨hb, ht, hl⟩ := hc
    obtain ⟨G'', s, et, R'', hg⟩ := R0.cutTo n.hr n.pre ht hl
    have cut : ∀ {v : PV} {x : V}, RV K G' ι' v x → below h.length v → RV K G'' ι v x := fun {v x} r q => by
      have := RV.cut (n := h.length) s r q
      rwa [et] at this
    refine ⟨G'', ι, s, ⟨n.same.trans s, Pre.refl _, R'', n.zz⟩, ?_⟩
    show RV K G'' ι (thaw h.length h' v) x
    cases v with
    | ref m =>
      have eth : thaw h.length h' (.ref m) = if m < h.length then .ref m else match h'[m]? with
          | some (.lst xs) => .lst xs
          | some (.dic ps) => .dic (ps.map (·.1)) (ps.map (·.2))
          | some (.fdic ps) => .dic (ps.map (·.1)) (ps.map (·.2))
          | _ => .ref m := rfl
      rw [eth] at hb ⊢
      split
      · rename_i hm
        rw [if_pos hm] at hb
        exact cut r hb
      · rename_i hm
        rw [if_neg hm] at hb
        have there : ∀ {a : Addr}, ι'[m]? = some a → a ∈ ι'.drop ι.length := fun {a} hn => by
          refine List.mem_of_getElem? (i := m - ι.length) ?_
          rw [List.getElem?_drop, R0.len]
          have : h.length + (m - h.length) = m := by omega
          rw [this]
          exact hn
        cases e : h'[m]? with
        | none =>
          rw [e] at hb
          exact cut r hb
        | some o =>
          cases o with
          | lst xs =>
            rw [e] at hb
            obtain ⟨a, vs, rfl, hn, hH, rvs⟩ := ref_lst n.hr r e
            have rc := RVs.cut (n := h.length) s rvs hb
            rw [et] at rc
            exact .lst (.inl ((hg a (there hn)).trans hH)) rc
          | dic ps =>
            rw [e] at hb
            obtain ⟨a, rfl, hn⟩ := r.ref_inv
            have ro := n.hr.obj m a _ hn e
            generalize hH : H' a = u at ro
            cases ro with
            | dic hk rs =>
              have rc := RVs.cut (n := h.length) s rs hb
              rw [et] at rc
              exact .dic (.inl ((hg a (there hn)).trans hH)) hk rc
          | fdic ps =>
            rw [e] at hb
            obtain ⟨a, rfl, hn⟩ := r.ref_inv
            have ro := n.hr.obj m a _ hn e
            generalize hH : H' a = u at ro
            cases ro with
            | fdic hk rs =>
              have rc := RVs.cut (n := h.length) s rs hb
              rw [et] at rc
              exact .dic (.inr ⟨_, (hg a (there hn)).trans hH⟩) hk rc
          | ins _ _ =>
            rw [e] at hb
            exact cut r hb
    | non => exact cut r hb
    | bl _ => exact cut r hb
    | int _ => exact cut r hb
    | str _ => exact cut r hb
    | tup _ => exact cut r hb
    | lst _ => exact cut r hb
    | dic _ _ => exact cut r hb
    | exn _ _ => exact cut r hb
    | fn _ => exact cut r hb
  · exact ⟨G', ι', Up.refl _, n, r⟩
/-- a body's end, as its caller sees it -/
theorem OP.exit {exc : List Str} {o : Out} {kp : Bool} {Q : VK} {E : XK} (R0 : HR K Z G ι h H) (p : RP exc K (rV K) Z G ι H (o.res kp h) Q E) : OP exc K (fun cls d _ H => E cls d H) Z G ι H o { nx := fun _ H' => Q .non H', rt := Q } := by
  cases kp with
  | true =>
    cases o with
    | nx ρ h' => exact fun G' ι' H' σ' n S => p G' ι' H' .non n .non
    | rt v h' => exact p
    | exn c v ρ h' => exact ⟨p.1, fun G' ι' H' σ' C dd x n S hm hd r => p.2 G' ι' H' C dd x n hm hd r⟩
    | bk ρ h' => exact p.elim
    | ct ρ h' => exact p.elim
    | stuck => exact p.elim
  | false =>
    cases o with
    | nx ρ h' =>
      intro G' ι' H' σ' n S
      obtain ⟨G'', ι'', s, n2, r2⟩ := leave_ok R0 n (.non : RV K G' ι' .non .non)
      exact p G'' ι'' H' .non n2 r2
    | rt v h' =>
      intro G' ι' H' x n r
      obtain ⟨G'', ι'', s, n2, r2⟩ := leave_ok R0 n r
      exact p G'' ι'' H' x n2 r2
    | exn c v ρ h' =>
      refine ⟨p.1, fun G' ι' H' σ' C dd x n S hm hd r => ?_⟩
      obtain ⟨G'', ι'', s, n2, r2⟩ := leave_ok R0 n r
      exact p.2 G'' ι'' H' C dd x n2 hm (s.exact hd fun _ z => nomatch z) r2
    | bk ρ h' => exact p.elim
    | ct ρ h' => exact p.elim
    | stuck => exact p.elim
end
theorem spF_len {exc : List Str} {K : Wr} {len : Nat} {b : List PV → MH → Res PV} {vs : List V} {H : Hp} {Q : VK} {E : XK} (h : spF exc K len b vs H Q E) : vs.length = len := by
  obtain ⟨Z, G, ι, h, as, hl, R, r, p⟩ := h
  rw [← r.length, hl]
section
variable {P : Program} {w : World} {K : PySem.W.Frag} {mg : Str → Option Value} {base : Heap}
/-- what holds at a level of calls -/
structure Cf (P : Program) (w : World) (K : PySem.W.Frag) (mg : Str → Option Value) (base : Heap) (L : Lk) (Pg : Pg) (cl : Calls) (k : Nat) : Prop where
  free : ∀ x ∈ L.fr, mg x = none
  gcd : L.gcd = true → mg "gcd" = some (.builtin "math.gcd")
  con : ∀ x ∈ L.cons, ∃ v u y, Pg.con x = some v ∧ mg x = some u ∧ RelV y u ∧ ∀ G ι, RV ⟨K, mg⟩ G ι v y
  fns : ∀ f ∈ L.fns, ∃ a fd ps b, DefK ⟨K, mg⟩ f a fd ps ∧ FnG P w K mg base (L2.CX P w) k a fd ps (spF Pg.exc ⟨K, mg⟩ ps.length b) ∧
    ∀ xs ks ys h, cl f xs ks ys h = match argsOf ps xs ks ys with | none => .stuck | some as => b as h
  fnd : ∀ f, (Pg.fns f).isSome = true → f ∈ L.fns
  xf : ∀ c ∈ Pg.exc, ∀ C, mg c = some (.ref C) → XfC K C ∧ PySem.W.findIn K (.ref C) "value" = some none
  rs : ∀ c ∈ L.exc, c ∈ Pg.exc ∧ ∃ (C fI : Addr) (fd : FuncData), mg c = some (.ref C) ∧ OexC K C ∧ PySem.W.findIn K (.ref C) "value" = some none ∧ PySem.W.findIn K (.ref C) "__init__" = some (some (.ref fI)) ∧ PySem.W.typeIn K (.ref fI) = some (.type "function") ∧
    FnOk P w K mg base (L2.CX P w) 1 fI fd ["self", "value"] (spInit K) ∧ Binds K fd ["self", "value"] []
  hd : ∀ t ∈ L.exc, ∃ T, mg t = some (.ref T) ∧ ∀ c ∈ Pg.exc, ∀ C, mg c = some (.ref C) → PySem.W.exmOne K (.ref C) (.ref T) = some (subT Pg.exc c t)
/-- the rule for a def, with no text of a value around -/
theorem fnG_of {CX : CXT} {k : Nat} {x qual : Str} {params : Arguments} {bd : List Stmt} {scope : Scope} {f : Addr} {fd : FuncData} {N ps : List Str} {sp : Sp} (F : FunD K x qual params bd scope [] [] f fd) (S : FnScope N ps scope)
    (len : ∀ vs H Q E, sp vs H Q E → vs.length = ps.length)
    (hb : ∀ (cv : Value) (A : Around) (out : List Env) (s : Shared) (H : Hp) (vs : List V) (Q : VK) (E : XK), A.guards = some [] → Room k (A.deeper (envOfC qual scope s.heap.objs.size f cv)) → sp vs H Q E →
      ∃ t, PSs (cxOf CX P w K mg base N qual scope f cv A out s H E) bd t ∧ t { nx := fun _ H' => Q .non H', rt := Q } (start N vs) H) : FnG P w K mg base CX (k + 1) f fd ps sp := by
  obtain ⟨oc, od, dV, kV, doc, pm, an, cv, ct, osl, rfl, lk, hcd, _, _⟩ := F.ex
  constructor
  · exact len
  · intro A out s H gs us vs Q E hgd hr e0 hbi rv hsp
    have hl := len _ _ _ _ hsp
    have same : ∀ b o, base.get? b = some o → s.heap.get? b = some o := fun b o e => (e0.bs b o e).1
    have kin : K.In s.heap := e0.mod.kin.keeps same
    have params_ok : ∀ y ∈ ps.zip us, scope.names.lookup y.1 = some .local ∨ (scope.names.lookup y.1 = some .cell ∧ ((cellsFrom (s.heap.objs.size + 1) scope.names []).lookup y.1).isSome = true) := by
      rintro ⟨y, z⟩ hy
      rcases S.par y (List.of_mem_zip hy).1 with q | q
      · exact Or.inl q
      · exact Or.inr ⟨q, PySem.W.cellsFrom_some _ _ _ (Or.inl q)⟩
    have cdr := PySem.W.codeRec_of kin hcd
    refine codeAny_call_function hr.depth (kin _ _ lk) rfl S.co S.gen rfl cdr (hbi _ _ _ _ ?_)
    refine wpAny_newFunctionEnv_cells S.kind params_ok ?_
    rintro env rfl s1 x1
    refine ⟨(e0.mod.nolimit.keeps same).keeps x1.toInCall.keep, codeAny_func ?_⟩
    obtain ⟨t, ht, hq⟩ := hb cv A out s H vs Q E hgd (hr.deeper _) hsp
    have I := inv_start (CX := CX) (P := P) (w := w) (E := E) (N := N) (ps := ps) S hr.hd e0 hl rv x1
    refine wpAny_mono (ht.run [] s1 (start N vs) H _ I hq) ?_ fun e s' hs => hs
    intro fl s' hs
    cases fl with
    | next =>
      obtain ⟨σ2, H2, J, q⟩ := hs
      exact ⟨V.non, H2, J.os, J.bare, J.base, J.hok, rfl, q⟩
    | ret u =>
      obtain ⟨v2, σ2, H2, J, rv2, q⟩ := hs
      exact ⟨v2, H2, J.os, J.bare, J.base, J.hok, rv2, q⟩
    | brk =>
      obtain ⟨_, _, _, q⟩ := hs
      exact q.elim
    | cont =>
      obtain ⟨_, _, _, q⟩ := hs
      exact q.elim
theorem fn_level {L : Lk} {Pg : Pg} {cl : Calls} {k : Nat} {x qual : Str} {params : Arguments} {bd : List Stmt} {scope : Scope} {f : Addr} {fd : FuncData} {N ps : List Str} {d : Fn} (C : Cf P w K mg base L Pg cl k) (hk : 2 ≤ k)
    (F : FunD K x qual params bd scope [] [] f fd) (S : FnScope N ps scope) (hns : d.ns = N.length) (hm : mSs L N scope false d.body bd = true) :
    FnG P w K mg base (L2.CX P w) (k + 1) f fd ps (spF Pg.exc ⟨K, mg⟩ ps.length (body Pg cl d)) := by
  refine fnG_of F S (fun vs H Q E h => spF_len h) fun cdv A outer s H vs Q E hgd hr hsp => ?_
  generalize hX : cxOf (L2.CX P w) P w K mg base N qual scope f cdv A outer s H E = X
  have Cc : Cs (L.at false) Pg cl (fun cls d _ H => E cls d H) X := by
    subst hX
    refine ⟨⟨S.nd, fun _ => rfl, hgd, hr.units, (show (A.deeper (envOfC qual scope s.heap.objs.size f cdv)).units + 65 < cLine by have := hr.un; omega), C.free, C.gcd, C.con, takes_of rfl rfl rfl rfl, fun _ f hf => ?_, C.fnd, C.xf⟩, S.kind, fun _ => rfl, fun _ => passes_of rfl, fun _ => rfl, rfl, fun _ c hc => ?_, C.hd⟩
    · obtain ⟨a, fd, ps, b, q1, q2, q3⟩ := C.fns f hf
      exact ⟨a, fd, ps, k, b, q1, q2, hr, q3⟩
    · obtain ⟨q0, C', fI, fd, q1, q2, q3, q4, q5, q6, q7⟩ := C.rs c hc
      exact ⟨⟨C', fI, 1, fd, q1, q2, q3, q4, q5, q6, hr.mono hk, q7⟩, q0⟩
  have hN : X.N = N := by subst hX; rfl
  have hS : X.env.scope = scope := by subst hX; rfl
  have hkx : kx X = ⟨K, mg⟩ := by subst hX; rfl
  refine ⟨_, sSs d.body Cc (by rw [hN, hS]; exact hm), ?_⟩
  obtain ⟨Z, G, ι, h, as, hl, R, r, p⟩ := hsp
  rw [hkx]
  refine ⟨Z, G, ι, h, as.map some ++ List.replicate (d.ns - as.length) none, R, ⟨?_, fun i y e => ?_⟩, OP.exit R p⟩
  · unfold L2.start
    rw [List.length_append, List.length_append, List.length_map, List.length_map, List.length_replicate, List.length_replicate, hns, r.length]
  · unfold L2.start
    by_cases hi : i < as.length
    · rw [List.getElem?_append_left (by rw [List.length_map]; exact hi), List.getElem?_map] at e
      rw [List.getElem?_append_left (by rw [List.length_map, ← r.length]; exact hi), List.getElem?_map]
      cases e1 : as[i]? with
      | none => rw [e1] at e; cases e
      | some z =>
        rw [e1] at e
        cases e
        obtain ⟨v, e2, r2⟩ := r.get e1
        exact ⟨v, by rw [e2]; rfl, r2⟩
    · rw [List.getElem?_append_right (by rw [List.length_map]; omega)] at e
      have := List.mem_of_getElem? e
      rw [List.mem_replicate] at this
      cases this.2
/-- WishError's own __init__ -/
theorem init_ok {x qual : Str} {params : Arguments} {bd : List Stmt} {scope : Scope} {f : Addr} {fd : FuncData} (F : FunD K x qual params bd scope [] [] f fd) (S : FnScope ["self", "value"] ["self", "value"] scope)
    (hb : ∃ p1 p2 p3 p4 p5 p6 p7 p8 p9 p10, bd = [.Expr (.Call (.Attribute (.Name "ValueError" p1) "__init__" p2) [.Name "self" p3, .Name "value" p4] [] p5) p6, .Assign [.Attribute (.Name "self" p7) "value" p8] (.Name "value" p9) p10] ∧ ∀ env : Env, ∃ pl : Sem Bool, eval (.Call (.Attribute (.Name "ValueError" p1) "__init__" p2) [.Name "self" p3, .Name "value" p4] [] p5) env = (do
      let ov ← eval (.Name "ValueError" p1) env
      standAt p2.atName
      let (f, first) ← holding [ov] (getMethod ov "__init__" pl)
      callWith p5 f first (backTo p5 (starEach [.Name "self" p3, .Name "value" p4] env)) (backToKw p5 (keywordEach [] env))))
    (hg : scope.names.lookup ("ValueError" : Str) = some .globalImplicit) (hs : scope.names.lookup ("self" : Str) = some .local) (hv : scope.names.lookup ("value" : Str) = some .local) (hm : mg "ValueError" = none)
    (vV : PySem.W.findCls K (.type "ValueError") (.type "type") "__init__" = some (.val (.builtin "ValueError.__init__"))) : FnOk P w K mg base (L2.CX P w) 1 f fd ["self", "value"] (spInit K) := by
  obtain ⟨p1, p2, p3, p4, p5, p6, p7, p8, p9, p10, rfl, hpl⟩ := hb
  refine F.ok S (fun vs H Q E h => ?_) fun cdv A outer s H vs Q E hr hsp => ?_
  · obtain ⟨a, C, y, rfl, _⟩ := h; rfl
  · generalize hX : cxOf (L2.CX P w) P w K mg base [("self" : Str), ("value" : Str)] qual scope f cdv A outer s H E = X
    have hN : X.N = [("self" : Str), ("value" : Str)] := by subst hX; rfl
    have hS : X.env.scope = scope := by subst hX; rfl
    have hK : X.K = K := by subst hX; rfl
    have hmg : X.mg = mg := by subst hX; rfl
    have v0 : ∀ p, PE X (.Name "self" p) (tVar 0) := fun p => pe_var (by rw [hN]; rfl) (.inl (by rw [hS]; exact hs))
    have v1 : ∀ p, PE X (.Name "value" p) (tVar 1) := fun p => pe_var (by rw [hN]; rfl) (.inl (by rw [hS]; exact hv))
    obtain ⟨pl, hpl⟩ := hpl X.env
    refine ⟨_, pss_cons (ps_expr (pe_veinit (show X.env.scope.names.lookup ("ValueError" : Str) = some .globalImplicit by rw [hS]; exact hg) (by rw [hmg]; exact hm) (by rw [hK]; exact vV) (pa_cons (v0 p3) (pa_cons (v1 p4) pa_nil)) hpl)) (pss_one (ps_ost (v0 p7) (v1 p9))), ?_⟩
    obtain ⟨a, C, y, rfl, hC, hno, ha, hq⟩ := hsp
    rw [hK]
    refine ⟨_, rfl, _, rfl, a, C, [y], rfl, by simp, hC, ha, _, rfl, _, rfl, a, C, rfl, hC, hno, .inl ⟨ha, fun dx h1 h2 => ?_⟩⟩
    exact hq dx h1 h2
end
end Mx

end

section
set_option Elab.async false
set_option Elab.async false
set_option linter.all false
set_option maxRecDepth 100000
set_option maxHeartbeats 8000000
/-! A whole program: what is looked at behind the top; levels of calls. -/
namespace Mx
open PySem PySem.Spec PyProof.Rows L2
/-- one def: its name, what it does, its names, its text -/
structure Ent where
  f : Str
  d : Fn
  N : List Str
  D : He.DefD
/-- what is looked at in the text of a def -/
def stOk (L : Lk) (e : Ent) : Bool :=
  (match e.D.scope.kind with | .function => true | _ => false) && !e.D.scope.isCoroutine && !e.D.scope.isGenerator && decide e.N.Nodup && decide (e.N.take e.d.ps.length = e.d.ps) && e.d.ps.all (locB e.D.scope) && e.D.scope.names.all (fun y => !(y.2 == .free)) &&
    decide (e.d.ns = e.N.length) && e.D.params.posonlyargs.isEmpty && e.D.params.kwonlyargs.isEmpty && e.D.params.vararg.isNone && e.D.params.kwarg.isNone && decide (e.D.params.args.map (·.arg) = e.d.ps) && e.D.dfl.isEmpty && e.D.kwd.isEmpty &&
    decide (e.D.at_ = (e.f, none)) && mSs L e.N e.D.scope false e.d.body e.D.body
theorem fnScope_of {N P : List Str} {sc : Scope} (h1 : (match sc.kind with | .function => true | _ => false) = true) (h2 : sc.isCoroutine = false) (h3 : sc.isGenerator = false) (h4 : N.Nodup) (h5 : N.take P.length = P) (h6 : P.all (locB sc) = true) (h7 : sc.names.all (fun y => !(y.2 == .free)) = true) : FnScope N P sc := by
  refine ⟨?_, h2, h3, h4, h5, fun x hx => loc_of (List.all_eq_true.mp h6 x hx), fun y hy e => ?_⟩
  · split at h1
    · assumption
    · cases h1
  · have := List.all_eq_true.mp h7 y hy
    rw [e] at this
    cases this
/-! ### the written part -/
mutual
def pvB (K : PySem.W.Frag) : PV → Value → Bool
  | .non, .none => true
  | .bl b, .bool c => b == c
  | .int i, .int j _ => decide (i = j)
  | .str x, .str y _ => decide (x = y)
  | .tup xs, .ref a => match K.lookup a with
    | some ⟨.type c, none, .seq its _, _⟩ => decide (c = "tuple") && decide (its.size ≤ sizeLine) && pvsB K xs its.toList
    | _ => false
  | _, _ => false
def pvsB (K : PySem.W.Frag) : List PV → List Value → Bool
  | [], [] => true
  | x :: xs, u :: us => pvB K x u && pvsB K xs us
  | _, _ => false
end
mutual
theorem pvB_ok {K : PySem.W.Frag} {mg : Str → Option Value} : ∀ {x : PV} {u : Value}, pvB K x u = true → ∃ y, RelV y u ∧ ∀ G ι, RV ⟨K, mg⟩ G ι x y
  | .non, u, h => by
    cases u <;> try (cases h; done)
    exact ⟨.non, rfl, fun _ _ => .non⟩
  | .bl b, u, h => by
    cases u <;> try (cases h; done)
    simp only [pvB, beq_iff_eq] at h
    subst h
    exact ⟨.bl b, rfl, fun _ _ => .bl b⟩
  | .int i, u, h => by
    cases u <;> try (cases h; done)
    simp only [pvB, decide_eq_true_eq] at h
    subst h
    exact ⟨.int i, ⟨_, rfl⟩, fun _ _ => .int i⟩
  | .str i, u, h => by
    cases u <;> try (cases h; done)
    simp only [pvB, decide_eq_true_eq] at h
    subst h
    exact ⟨.str i, ⟨_, rfl⟩, fun _ _ => .str i⟩
  | .tup xs, u, h => by
    cases u <;> try (cases h; done)
    rename_i a
    unfold pvB at h
    split at h
    · rename_i c its n sl e
      simp only [Bool.and_eq_true, decide_eq_true_eq] at h
      obtain ⟨⟨rfl, h2⟩, h3⟩ := h
      obtain ⟨ys, r1, r2⟩ := pvsB_ok (K := K) (mg := mg) h3
      exact ⟨.ref a, rfl, fun G ι => .tup (.inr ⟨_, its, n, e, rfl, rfl, h2, r1, rfl⟩) (r2 G ι)⟩
    · cases h
  | .lst _, u, h => by cases u <;> cases h
  | .dic _ _, u, h => by cases u <;> cases h
  | .ref _, u, h => by cases u <;> cases h
  | .exn _ _, u, h => by cases u <;> cases h
  | .fn _, u, h => by cases u <;> cases h
theorem pvsB_ok {K : PySem.W.Frag} {mg : Str → Option Value} : ∀ {xs : List PV} {us : List Value}, pvsB K xs us = true → ∃ ys, Vals ys us ∧ ∀ G ι, RVs ⟨K, mg⟩ G ι xs ys
  | [], us, h => by
    cases us with
    | nil => exact ⟨[], .nil, fun _ _ => .nil⟩
    | cons _ _ => cases h
  | x :: xs, us, h => by
    cases us with
    | nil => cases h
    | cons u us =>
      unfold pvsB at h
      rw [Bool.and_eq_true] at h
      obtain ⟨y, r1, r2⟩ := pvB_ok (K := K) (mg := mg) h.1
      obtain ⟨ys, r3, r4⟩ := pvsB_ok (K := K) (mg := mg) h.2
      exact ⟨y :: ys, .cons r1 r3, fun G ι => .cons (r2 G ι) (r4 G ι)⟩
end
def oexB (K : PySem.W.Frag) (C : Addr) : Bool := match K.lookup C with
  | some ⟨.type t, _, .cls cd, sl⟩ => decide (t = "type") && (match cd.mro, sl.toList with
    | .ref C' :: bm, [_, _, _, _, some (.builtin n), _] => decide (C' = C) && decide (n = "ValueError.__new__") && !cd.hasDel && cd.hasDict && PySem.HandSPX.refsVE bm
    | _, _ => false) &&
    He.eqO (PySem.W.findIn K (.ref C) "__setattr__") (some (some (.builtin "object.__setattr__"))) && decide (PySem.W.subIn K (.ref C) (.type "BaseException") = some true) && decide (PySem.W.typeIn K (.ref C) = some (.type "type")) && PySem.W.keepIn K (.ref C)
  | _ => false
theorem oexB_ok {K : PySem.W.Frag} {C : Addr} (h : oexB K C = true) : OexC K C := by
  unfold oexB at h
  split at h
  · rename_i t dd cd sl e
    simp only [Bool.and_eq_true, decide_eq_true_eq] at h
    obtain ⟨⟨⟨⟨⟨rfl, h1⟩, h2⟩, h3⟩, h4⟩, h5⟩ := h
    split at h1
    · rename_i C' bm k0 k1 k2 k3 n k5 hm hs
      simp only [Bool.and_eq_true, decide_eq_true_eq, Bool.not_eq_true'] at h1
      obtain ⟨⟨⟨⟨rfl, rfl⟩, hdel⟩, hd⟩, hr⟩ := h1
      refine ⟨?_, He.eqO_ok h2, h3, h4, h5⟩
      obtain ⟨nm, bs, mro, ns, qn, hdc, sn, sub, ab, col, del⟩ := cd
      dsimp only at hm hdel hd
      subst hm hdel hd
      have hsl : sl = #[k0, k1, k2, k3, some (.builtin "ValueError.__new__"), k5] := by
        obtain ⟨l⟩ := sl
        simp only at hs
        rw [hs]
      subst hsl
      exact ⟨nm, qn, ns, bs, bm, sn, sub, ab, col, dd, k0, k1, k2, k3, k5, e, hr⟩
    · cases h1
  · cases h
abbrev iniA (K : PySem.W.Frag) : Addr := He.ma K (He.ga K "WishError") "__init__"
def veIB (K : PySem.W.Frag) : Bool := match PySem.W.findCls K (.type "ValueError") (.type "type") "__init__" with
  | some (.val (.builtin n)) => decide (n = "ValueError.__init__")
  | _ => false
theorem veIB_ok {K : PySem.W.Frag} (h : veIB K = true) : PySem.W.findCls K (.type "ValueError") (.type "type") "__init__" = some (.val (.builtin "ValueError.__init__")) := by
  unfold veIB at h
  split at h
  · rename_i n e
    rw [e, of_decide_eq_true h]
  · cases h
/-- what is looked at behind the top -/
def chkK (L : Lk) (exc : List Str) (cons : List (Str × PV)) (K : PySem.W.Frag) : Bool :=
  L.fns.all (fun f => He.Fa.ok K (.glo f)) && L.fr.all (fun x => He.Fa.ok K (.free x)) && (!L.gcd || He.eqO (PySem.W.nsIn K mainGlobals "gcd") (some (some (.builtin "math.gcd")))) &&
    cons.all (fun p => match PySem.W.nsIn K mainGlobals p.1 with | some (some u) => pvB K p.2 u | _ => false) &&
    exc.all (fun c => He.Fa.ok K (.glo c) && oexB K (He.ga K c) && xfB K (He.ga K c) && He.eqO (PySem.W.findIn K (.ref (He.ga K c)) "value") (some none) && He.eqO (PySem.W.findIn K (.ref (He.ga K c)) "__init__") (some (some (.ref (iniA K))))) &&
    exc.all (fun c => L.exc.all fun t => decide (PySem.W.exmOne K (.ref (He.ga K c)) (.ref (He.ga K t)) = some (subT exc c t))) &&
    (exc.isEmpty || (decide (PySem.W.typeIn K (.ref (iniA K)) = some (.type "function")) && He.Fa.ok K (.free "ValueError") && veIB K))
/-- no list: the script is none of it -/
def noLst (p : Addr × Obj) : Bool := match p.2.cls with
  | .type c => !(c == "list")
  | _ => true
def frM (n : List Addr) (g : Addr → Option Obj) : PySem.W.Frag := (He.frG g n).filter noLst
theorem frG_mem {g : Addr → Option Obj} {as : List Addr} {p : Addr × Obj} (h : p ∈ He.frG g as) : g p.1 = some p.2 := by
  unfold He.frG at h
  obtain ⟨a, ha, e⟩ := List.mem_filterMap.mp h
  cases q : g a with
  | none => rw [q] at e; cases e
  | some o => rw [q] at e; cases e; exact q
theorem mem_of_lookupA {α : Type} {a : Addr} {o : α} : ∀ {l : List (Addr × α)}, l.lookup a = some o → (a, o) ∈ l
  | (b, x) :: l, h => by
    rw [List.lookup_cons] at h
    cases hb : a == b with
    | true => rw [hb] at h; cases h; rw [beq_iff_eq.mp hb]; exact List.mem_cons_self
    | false => rw [hb] at h; exact List.mem_cons_of_mem _ (mem_of_lookupA h)
def NoL (K : PySem.W.Frag) : Prop := ∀ a o, K.lookup a = some o → o.cls ≠ .type "list"
theorem frM_in {n : List Addr} {h : Heap} : (frM n h.get?).In h := fun a o e => by
  have m := mem_of_lookupA e
  exact frG_mem (List.mem_filter.mp m).1
theorem frM_no {n : List Addr} {g : Addr → Option Obj} : NoL (frM n g) := fun a o e q => by
  have m := (List.mem_filter.mp (mem_of_lookupA e)).2
  unfold noLst at m
  dsimp only at m
  rw [q] at m
  cases m
abbrev AlM : Type := Bool × List He.FnW
def obsM (chk : PySem.W.Frag → Bool) (fn : List He.DefD) (K : PySem.W.Frag) : AlM := (chk K && fn.all fun d => d.ok K, fn.map fun d => He.fnW K d.at_)
def valM (fn : List He.DefD) : AlM := (true, fn.map He.DefD.val)
def SaysM (chk : PySem.W.Frag → Bool) (fn : List He.DefD) (K : PySem.W.Frag) : Prop := NoL K ∧ obsM chk fn K = valM fn
def obsMG (n : List Addr) (chk : PySem.W.Frag → Bool) (fn : List He.DefD) (g : Addr → Option Obj) : AlM := obsM chk fn (frM n g)
def hookM (n : List Addr) (chk : PySem.W.Frag → Bool) (fn : List He.DefD) : PySem.W.Hook where
  α := AlM
  obs := fun s => obsMG n chk fn s.heap.get?
  val := fun _ => valM fn
  says := fun _ h => ∃ K : PySem.W.Frag, K.In h ∧ SaysM chk fn K
  of := fun _ _ e => ⟨_, frM_in, frM_no, e⟩
  keeps := fun _ _ _ ⟨K, hK, c⟩ k => ⟨K, PySem.W.Frag.In.keeps hK k, c⟩
theorem obsMG_eq {n : List Addr} {chk : PySem.W.Frag → Bool} {fn : List He.DefD} {g : Addr → Option Obj} {s : Shared} (h : ∀ a, g a = s.heap.get? a) : obsMG n chk fn g = (hookM n chk fn).obs s := by
  have e : g = s.heap.get? := funext h
  rw [e] <;> rfl
theorem SaysM.chk {chk : PySem.W.Frag → Bool} {fn : List He.DefD} {K : PySem.W.Frag} (c : SaysM chk fn K) : chk K = true := (He.ba (show (chk K && fn.all fun d => d.ok K) = true from congrArg (fun z : AlM => z.1) c.2)).1
theorem SaysM.def_ {chk : PySem.W.Frag → Bool} {fn : List He.DefD} {K : PySem.W.Frag} (c : SaysM chk fn K) {d : He.DefD} (h : d ∈ fn) : ∃ fd, FunD K d.name d.qual d.params d.body d.scope (d.dvs K) (d.kws K) (He.fAd K d.at_) fd := by
  have c2 := (He.ba (show (chk K && fn.all fun d => d.ok K) = true from congrArg (fun z : AlM => z.1) c.2)).2
  have e : fn.map (fun d => He.fnW K d.at_) = fn.map He.DefD.val := congrArg (fun z : AlM => z.2) c.2
  obtain ⟨i, hi, hd⟩ := List.mem_iff_getElem.mp h
  have e2 : (fn.map fun d => He.fnW K d.at_)[i]? = (fn.map He.DefD.val)[i]? := by rw [e]
  rw [List.getElem?_map, List.getElem?_map, List.getElem?_eq_getElem hi, hd] at e2
  exact He.DefD.funD (Option.some.inj e2) (List.all_eq_true.mp c2 d h)

section
variable {P : Program} {w : World} {K : PySem.W.Frag} {mg : Str → Option Value} {base : Heap} {L : Lk} {Pg : Pg} {ents : List Ent} {cons : List (Str × PV)} {dI : He.DefD}
/-- the text of WishError's __init__ -/
def InitD (d : He.DefD) : Prop := d.at_ = (("WishError" : Str), some ("__init__" : Str)) ∧ d.dfl = [] ∧ d.kwd = [] ∧ d.params.posonlyargs = [] ∧ d.params.kwonlyargs = [] ∧ d.params.vararg = none ∧ d.params.kwarg = none ∧ d.params.args.map (·.arg) = [("self" : Str), ("value" : Str)] ∧
  FnScope ["self", "value"] ["self", "value"] d.scope ∧ d.scope.names.lookup ("ValueError" : Str) = some .globalImplicit ∧ d.scope.names.lookup ("self" : Str) = some .local ∧ d.scope.names.lookup ("value" : Str) = some .local ∧
  ∃ p1 p2 p3 p4 p5 p6 p7 p8 p9 p10, d.body = [.Expr (.Call (.Attribute (.Name "ValueError" p1) "__init__" p2) [.Name "self" p3, .Name "value" p4] [] p5) p6, .Assign [.Attribute (.Name "self" p7) "value" p8] (.Name "value" p9) p10] ∧ ∀ env : Env, ∃ pl : Sem Bool, eval (.Call (.Attribute (.Name "ValueError" p1) "__init__" p2) [.Name "self" p3, .Name "value" p4] [] p5) env = (do
      let ov ← eval (.Name "ValueError" p1) env
      standAt p2.atName
      let (f, first) ← holding [ov] (getMethod ov "__init__" pl)
      callWith p5 f first (backTo p5 (starEach [.Name "self" p3, .Name "value" p4] env)) (backToKw p5 (keywordEach [] env)))
/-- what is said of the text alone -/
structure Txt (L : Lk) (Pg : Mx.Pg) (ents : List Ent) (cons : List (Str × PV)) (dI : He.DefD) : Prop where
  st : ∀ e ∈ ents, stOk L e = true
  fns : ∀ f ∈ L.fns, ∃ e ∈ ents, e.f = f ∧ Pg.fns f = some e.d
  fnd : ∀ f, (Pg.fns f).isSome = true → f ∈ L.fns
  con : ∀ x ∈ L.cons, ∃ v, (x, v) ∈ cons ∧ Pg.con x = some v
  exc : ∀ t ∈ L.exc, t ∈ Pg.exc
  ini : Pg.exc ≠ [] → InitD dI
abbrev fnsOf (ents : List Ent) (Pg : Mx.Pg) (dI : He.DefD) : List He.DefD := ents.map (·.D) ++ (if Pg.exc.isEmpty then [] else [dI])
theorem ent_ok (T : Txt L Pg ents cons dI) (S : SaysM (chkK L Pg.exc cons) (fnsOf ents Pg dI) K) {e : Ent} (he : e ∈ ents) : ∃ fd, FunD K e.D.name e.D.qual e.D.params e.D.body e.D.scope [] [] (He.ga K e.f) fd ∧ FnScope e.N e.d.ps e.D.scope ∧ e.d.ns = e.N.length ∧ mSs L e.N e.D.scope false e.d.body e.D.body = true ∧
    ∀ mg : Str → Option Value, mg e.f = some (.ref (He.ga K e.f)) → DefK ⟨K, mg⟩ e.f (He.ga K e.f) fd e.d.ps := by
  have h := T.st e he
  unfold stOk at h
  simp only [Bool.and_eq_true, decide_eq_true_eq, Bool.not_eq_true', List.isEmpty_iff, Option.isNone_iff_eq_none] at h
  obtain ⟨⟨⟨⟨⟨⟨⟨⟨⟨⟨⟨⟨⟨⟨⟨⟨h1, h2⟩, h3⟩, h4⟩, h5⟩, h6⟩, h7⟩, h8⟩, h9⟩, h10⟩, h11⟩, h12⟩, h13⟩, h14⟩, h15⟩, h16⟩, h17⟩ := h
  obtain ⟨fd, F⟩ := S.def_ (d := e.D) (List.mem_append_left _ (List.mem_map_of_mem he))
  have e1 : e.D.dvs K = [] := by unfold He.DefD.dvs; rw [h14]; rfl
  have e2 : e.D.kws K = [] := by unfold He.DefD.kws; rw [h15]; rfl
  have e3 : He.fAd K e.D.at_ = He.ga K e.f := by rw [h16]; rfl
  rw [e1, e2, e3] at F
  have nd : e.d.ps.Nodup := by rw [← h5]; exact (List.take_sublist _ _).nodup h4
  refine ⟨fd, F, fnScope_of h1 h2 h3 h4 h5 h6 h7, h8, h17, fun mg hmg => ?_⟩
  obtain ⟨oc, od, dV, kV, doc, pm, an, cdv, ct, osl, rfl, lk, hcd, hD, hK⟩ := F.ex
  refine ⟨hmg, F.kp, h9, h10, h11, h12, ?_, h13, nd⟩
  rcases hD with ⟨_, rfl⟩ | ⟨q, _⟩
  · rfl
  · exact absurd rfl q
theorem lev (T : Txt L Pg ents cons dI) {h : Heap} (X : K.In h) (G : h.Ns mainGlobals mg) (S : SaysM (chkK L Pg.exc cons) (fnsOf ents Pg dI) K) : ∀ n : Nat, Cf P w K mg base L Pg (call Pg n) (n + 2) := by
  have hc := S.chk
  unfold chkK at hc
  simp only [Bool.and_eq_true, List.all_eq_true, decide_eq_true_eq] at hc
  obtain ⟨⟨⟨⟨⟨⟨c1, c2⟩, c3⟩, c4⟩, c5⟩, c6⟩, c7⟩ := hc
  have gl : ∀ {c : Str} {C : Addr}, He.Fa.ok K (.glo c) = true → mg c = some (.ref C) → C = He.ga K c := fun h1 h2 => by
    have := He.glo_ok X G h1
    rw [h2] at this
    cases this; rfl
  have xf : ∀ c ∈ Pg.exc, ∀ C, mg c = some (.ref C) → XfC K C ∧ PySem.W.findIn K (.ref C) "value" = some none := fun c hcc C hC => by
    have q := c5 c hcc
    have := gl q.1.1.1.1 hC
    subst this
    exact ⟨xfB_ok q.1.1.2, He.eqO_ok q.1.2⟩
  have hd : ∀ t ∈ L.exc, ∃ T, mg t = some (.ref T) ∧ ∀ c ∈ Pg.exc, ∀ C, mg c = some (.ref C) → PySem.W.exmOne K (.ref C) (.ref T) = some (subT Pg.exc c t) := fun t ht => by
    have q := c5 t (T.exc t ht)
    refine ⟨He.ga K t, He.glo_ok X G q.1.1.1.1, fun c hcc C hC => ?_⟩
    have q2 := c5 c hcc
    have := gl q2.1.1.1.1 hC
    subst this
    exact c6 c hcc t ht
  have rs : ∀ c ∈ L.exc, c ∈ Pg.exc ∧ ∃ (C fI : Addr) (fd : FuncData), mg c = some (.ref C) ∧ OexC K C ∧ PySem.W.findIn K (.ref C) "value" = some none ∧ PySem.W.findIn K (.ref C) "__init__" = some (some (.ref fI)) ∧ PySem.W.typeIn K (.ref fI) = some (.type "function") ∧
      FnOk P w K mg base (L2.CX P w) 1 fI fd ["self", "value"] (spInit K) ∧ L2.Binds K fd ["self", "value"] [] := fun c hcL => by
    have hcc := T.exc c hcL
    have q := c5 c hcc
    have hne : Pg.exc ≠ [] := fun e => by rw [e] at hcc; cases hcc
    have hne' : Pg.exc.isEmpty = false := by
      cases e : Pg.exc with
      | nil => exact absurd e hne
      | cons _ _ => rfl
    rw [hne', Bool.false_or, Bool.and_eq_true, Bool.and_eq_true, decide_eq_true_eq] at c7
    obtain ⟨⟨d1, d2⟩, d3⟩ := c7
    obtain ⟨i1, i2, i3, i4, i5, i6, i7, i8, i9, i10, i11, i12, i13⟩ := T.ini hne
    have hmem : dI ∈ fnsOf ents Pg dI := List.mem_append_right _ (by rw [hne']; exact List.mem_singleton.mpr rfl)
    obtain ⟨fd, F⟩ := S.def_ hmem
    have e1 : dI.dvs K = [] := by unfold He.DefD.dvs; rw [i2]; rfl
    have e2 : dI.kws K = [] := by unfold He.DefD.kws; rw [i3]; rfl
    have e3 : He.fAd K dI.at_ = iniA K := by rw [i1]; rfl
    rw [e1, e2, e3] at F
    refine ⟨hcc, He.ga K c, iniA K, fd, He.glo_ok X G q.1.1.1.1, oexB_ok q.1.1.1.2, He.eqO_ok q.1.2, He.eqO_ok q.2, d1, init_ok F i9 i13 i10 i11 i12 (He.free_ok X G d2) (veIB_ok d3), ?_⟩
    refine L2.Binds.all fun us hl => ?_
    obtain ⟨oc, od, dV, kV, doc, pm, an, cdv, ct, osl, rfl, lk, hcd, hD, hK⟩ := F.ex
    have hdV : dV = .none := by
      rcases hD with ⟨_, rfl⟩ | ⟨q, _⟩
      · rfl
      · exact absurd rfl q
    have hb := binds_all (fd := PySem.W.fnOf dI.name dI.qual dI.params dI.body dI.scope dV kV doc pm an cdv ct) (ps := [("self" : Str), ("value" : Str)]) i4 i5 i6 i7 (by subst hdV; rfl) i8 (by decide) (us := us) (ws := []) (ks := []) (as := us) (by
      unfold argsOf
      rw [if_pos (by refine ⟨by simpa using hl, rfl, List.nodup_nil, fun k hk => by cases hk⟩)]
      have e0 : ([("self" : Str), ("value" : Str)] : List Str).drop us.length = [] := List.drop_eq_nil_of_le (by rw [hl]; exact Nat.le_refl _)
      rw [e0]
      simp [looks])
    simpa using hb
  have con : ∀ x ∈ L.cons, ∃ v u y, Pg.con x = some v ∧ mg x = some u ∧ RelV y u ∧ ∀ G ι, RV ⟨K, mg⟩ G ι v y := fun x hx => by
    obtain ⟨v, h1, h2⟩ := T.con x hx
    have q := c4 (x, v) h1
    dsimp only at q
    split at q
    · rename_i u e
      obtain ⟨y, r1, r2⟩ := pvB_ok (K := K) (mg := mg) q
      exact ⟨v, u, y, h2, PySem.W.mg_of X G e, r1, r2⟩
    · cases q
  have gcd : L.gcd = true → mg "gcd" = some (.builtin "math.gcd") := fun hg => by
    rw [hg] at c3
    exact PySem.W.mg_of X G (He.eqO_ok (by simpa using c3))
  have free : ∀ x ∈ L.fr, mg x = none := fun x hx => He.free_ok X G (c2 x hx)
  intro n
  induction n with
  | zero =>
    refine ⟨free, gcd, con, fun f hf => ?_, T.fnd, xf, rs, hd⟩
    obtain ⟨e, he, rfl, hP⟩ := T.fns f hf
    obtain ⟨fd, F, Sc, hns, hm, hD⟩ := ent_ok T S he
    refine ⟨He.ga K e.f, fd, e.d.ps, fun _ _ => .stuck, hD mg (He.glo_ok X G (c1 _ hf)), ⟨fun vs H Q E q => spF_len q, fun A outer s H args us vs Q E _ _ _ _ _ q => ?_⟩, fun xs ks ys h => ?_⟩
    · obtain ⟨Z, G, ι, h, as, hl, R, r, p⟩ := q
      exact p.elim
    · show Res.stuck = _
      cases argsOf e.d.ps xs ks ys <;> rfl
  | succ n ih =>
    refine ⟨free, gcd, con, fun f hf => ?_, T.fnd, xf, rs, hd⟩
    obtain ⟨e, he, rfl, hP⟩ := T.fns f hf
    obtain ⟨fd, F, Sc, hns, hm, hD⟩ := ent_ok T S he
    refine ⟨He.ga K e.f, fd, e.d.ps, body Pg (call Pg n) e.d, hD mg (He.glo_ok X G (c1 _ hf)), fn_level ih (by omega) F Sc hns hm, fun xs ks ys h => ?_⟩
    show call Pg (n + 1) e.f xs ks ys h = _
    unfold Mx.call
    rw [hP] <;> rfl
/-- the law's own def -/
theorem law_fn (T : Txt L Pg ents cons dI) {e : Ent} (he : e ∈ ents) (hps : e.d.ps = [("script" : Str)]) {h : Heap} (X : K.In h) (G : h.Ns mainGlobals mg) (S : SaysM (chkK L Pg.exc cons) (fnsOf ents Pg dI) K) (hg : mg e.f = some (.ref (He.ga K e.f))) (n : Nat) :
    ∃ fd : FuncData, (∀ (s : Shared) (v : Value), BindsTo s fd ⟨[v], []⟩ [("script", v)]) ∧ ∀ base : Heap, K.In base → base.Ns mainGlobals mg → FnG P w K mg base (L2.CX P w) (n + 3) (He.ga K e.f) fd ["script"] (spF Pg.exc ⟨K, mg⟩ 1 (body Pg (call Pg n) e.d)) := by
  obtain ⟨fd, F, Sc, hns, hm, hD⟩ := ent_ok T S he
  have D := hD mg hg
  refine ⟨fd, fun s v => .of_eq ?_, fun base hb1 hb2 => ?_⟩
  · have hb := binds_all D.po D.ko D.va D.ka D.df D.nm D.nd (us := [v]) (ws := []) (ks := []) (as := [v]) (by
      unfold argsOf
      rw [hps]
      rw [if_pos (by refine ⟨rfl, rfl, List.nodup_nil, fun k hk => by cases hk⟩)]
      rfl)
    rw [hps] at hb
    simpa using hb
  · have := fn_level (lev (P := P) (w := w) (base := base) T X G S n) (by omega) F Sc hns hm
    rw [hps] at this
    exact this
/-- the law's promise, from what its body does -/
theorem law_sp {exc : List Str} {b : List PV → MH → Res PV} {h' : MH} {H : Hp} {a : Addr} {ns : List Int} (hO : Only H) (hn : NoL K) (hS : SqL K H a (ns.map V.int)) (hb : b [.lst (ns.map .int)] [] = .ok (.bl true) h') :
    spF exc ⟨K, mg⟩ 1 b [.ref a] H (fun v _ => v = .bl true) fun _ _ _ => False := by
  have rd : Rd H a (.lst (ns.map V.int)) := by
    rcases hS with q | ⟨o, its, n, q1, q2, _⟩
    · exact q
    · exact absurd q2 (hn a o q1)
  have rv : ∀ l : List Int, RVs ⟨K, mg⟩ H [] (l.map PV.int) (l.map V.int) := fun l => by
    induction l with
    | nil => exact .nil
    | cons i l ih => exact .cons (.int i) ih
  refine ⟨[], H, [], [], [.lst (ns.map .int)], rfl, ⟨Same.refl _, rfl, List.nodup_nil, fun _ h => (by cases h), fun n a o e _ => (by simp at e), fun _ h => (by cases h)⟩, .cons (.lst rd (rv ns)) .nil, ?_⟩
  rw [hb]
  intro G' ι' H' x n r
  exact r.bl_inv
end

/-! ### a program by its defs -/
def mkPg (ents : List Ent) (cons : List (Str × PV)) (exc : List Str) : Mx.Pg := ⟨fun f => (ents.map fun e => (e.f, e.d)).lookup f, fun x => cons.lookup x, exc⟩
theorem lookup_mem {α : Type} : ∀ {l : List (Str × α)} {x : Str}, x ∈ l.map (·.1) → ∃ v, (x, v) ∈ l ∧ l.lookup x = some v
  | (k, v) :: l, x, h => by
    rw [List.lookup_cons]
    cases hb : x == k with
    | true =>
      have := beq_iff_eq.mp hb
      subst this
      exact ⟨v, List.mem_cons_self, rfl⟩
    | false =>
      rw [List.map_cons, List.mem_cons] at h
      rcases h with e | h
      · subst e; simp at hb
      · obtain ⟨w, q1, q2⟩ := lookup_mem h
        exact ⟨w, List.mem_cons_of_mem _ q1, q2⟩
theorem txt_of {L : Lk} {ents : List Ent} {cons : List (Str × PV)} {exc : List Str} {dI : He.DefD} (hf : L.fns = ents.map (·.f)) (hc : L.cons = cons.map (·.1)) (he : L.exc = exc) (st : ents.all (stOk L) = true) (ini : exc ≠ [] → InitD dI) : Txt L (mkPg ents cons exc) ents cons dI where
  st := fun e h => List.all_eq_true.mp st e h
  fns := fun f h => by
    rw [hf] at h
    have h2 : f ∈ (ents.map fun e => (e.f, e.d)).map (·.1) := by
      rw [List.map_map]; exact h
    obtain ⟨d, q1, q2⟩ := lookup_mem h2
    obtain ⟨e, he, q3⟩ := List.mem_map.mp q1
    cases q3
    exact ⟨e, he, rfl, q2⟩
  fnd := fun f h => by
    rw [hf]
    have : ∀ l : List Ent, ((l.map fun e => (e.f, e.d)).lookup f).isSome = true → f ∈ l.map (·.f) := by
      intro l
      induction l with
      | nil => intro h; cases h
      | cons e l ih =>
        intro h
        rw [List.map_cons, List.lookup_cons] at h
        rw [List.map_cons, List.mem_cons]
        cases hb : f == e.f with
        | true => exact .inl (beq_iff_eq.mp hb)
        | false => rw [hb] at h; exact .inr (ih h)
    exact this ents h
  con := fun x h => by
    rw [hc] at h
    exact lookup_mem h
  exc := fun t h => by rw [← he]; exact h
  ini := ini
/-- as seen by a caller that takes no exception -/
theorem FnG_calm {P : Program} {w : World} {K : PySem.W.Frag} {mg : Str → Option Value} {base : Heap} {C2 : CXT} {k : Nat} {f : Addr} {fd : FuncData} {ps : List Str} {sp : Sp} (F : FnG P w K mg base (L2.CX P w) k f fd ps sp) :
    FnG P w K mg base C2 k f fd ps (fun vs H Q _ => sp vs H Q fun _ _ _ => False) :=
  ⟨fun vs H Q E q => F.len vs H Q _ q, fun A out s H gs us vs Q E hg hr he hb hv hs => codeAny_mono (F.go A out s H gs us vs Q _ hg hr he hb hv hs) fun r s' q => by
    cases r with
    | error e =>
      obtain ⟨_, _, _, _, _, _, _, _, _, _, _, _, z⟩ := q
      exact z.elim
    | ok fl =>
      cases fl with
      | ret u => exact q
      | next => exact q
      | brk => exact q
      | cont => exact q⟩
section
variable {P : Program} {w : World} {K : PySem.W.Frag} {mg mb : Str → Option Value} {CC : CXT} {k : Nat} {fa a : Addr} {fd : FuncData} {x : Str} {sp : Sp} {s1 : Shared} {vs : List Value} {ns : List Int}
/-- what a law's call is to end in -/
abbrev lawEnd (s1 : Shared) : Result → Shared → Prop := fun r s2 => r = .ok (.ret (.bool true)) ∧ OldK s1.heap s2.heap ∧ s2.os = s1.os ∧ AllBare s2.gens
theorem law_core (KX : K.In s1.heap) (n1 : s1.heap.Ns mainGlobals mg) (n2 : s1.heap.Ns builtinsNs mb) (n3 : ∀ y : Str, y ≠ "__name__" → mb y = bootBuiltins y) (n4 : s1.heap.NoLimit) (ng : s1.gens = #[])
    (ea : s1.heap.get? a = some { cls := .type "list", data := .seq vs.toArray }) (hr : Room k callerA)
    (F : ∀ b0 : Heap, K.In b0 → b0.Ns mainGlobals mg → FnG P w K mg b0 CC k fa fd [x] sp) (bd : ∀ (s : Shared) (u : Value), BindsTo s fd ⟨[u], []⟩ [(x, u)])
    (nx : ∀ H e s', CC [] H s1 (fun _ _ _ => False) e s' → False) (H : Hp) (hO : Only H) (hp : sp [.ref a] H (fun v _ => v = .bl true) fun _ _ _ => False) (hok : HOk P w H s1.heap) (hA : ∀ b, H b ≠ none → b = a) (hK : H a ≠ none → K.lookup a = none) :
    codeAny (model P w) callerA (.call (.ref fa) ⟨[.ref a], []⟩) (lawEnd s1) s1 := by
  -- the base: the heap without what is tracked
  have keep : ∀ {b : Addr} {o : Obj}, s1.heap.get? b = some o → H b = none → (hidT s1.heap H).get? b = some o := hidT_get
  have at_a : ∀ {b : Addr}, H b ≠ none → b = a := fun {b} q => hA b q
  have own_none : ∀ {b : Addr} {o : Obj} {es : Array DictEntry} {ep : Nat}, s1.heap.get? b = some o → o.data = .dict es ep → H b = none := by
    intro b o es ep e d
    refine Classical.byContradiction fun q => ?_
    have eb := at_a q
    rw [eb, ea] at e
    cases e
    cases (show Data.seq vs.toArray _ = Data.dict es ep from d)
  have spaces : ∀ {b : Addr} {m : Str → Option Value}, s1.heap.Ns b m → (hidT s1.heap H).Ns b m := by
    rintro b m ⟨o, es, ep, e, d, r⟩
    exact ⟨o, es, ep, keep e (own_none e d), d, r⟩
  have frag : K.In (hidT s1.heap H) := by
    intro b o e
    refine keep (KX b o e) (Classical.byContradiction fun q => ?_)
    have eb := at_a q
    rw [eb] at q e
    rw [hK q] at e
    cases e
  obtain ⟨mc, l1, l2⟩ := n4
  have e0 : Env0 P w K mg (hidT s1.heap H) callerA [] s1 H :=
    { frames := rfl, mod := ⟨frag, spaces n1, ⟨mb, spaces n2, n3⟩, mc, spaces l1, l2⟩, bs := fun b o => of_hidT, bsz := Nat.le_of_eq (hidT_size _ _), funs := trivial, frf := fun b hb => (List.not_mem_nil hb).elim, hok := hok, bare := .of_eq ng }
  refine codeAny_mono ((F _ frag (spaces n1)).go callerA [] s1 H ⟨[.ref a], []⟩ [.ref a] [.ref a] _ _ rfl hr e0 (bd s1 (.ref a)) (.cons rfl .nil) hp) ?_
  intro r s2 q
  cases r with
  | error e => exact (nx H e s2 q).elim
  | ok fl =>
    cases fl with
    | next => exact q.elim
    | brk => exact q.elim
    | cont => exact q.elim
    | ret u =>
      obtain ⟨v, H2, os, bare, un, hok2, rv, qv⟩ := q
      cases (show v = V.bl true from qv)
      cases (show u = Value.bool true from rv)
      refine ⟨rfl, OldK.of_keep ?_, os, bare⟩
      intro b o e
      by_cases hb : H b = none
      · exact un.keep b o e hb List.not_mem_nil List.not_mem_nil
      · rcases hO b with z | ⟨ob, xs, z⟩
        · exact absurd z hb
        · have e1 := (hok b _ z).1
          have e2 := (hok2 b _ (un.frzs b ob _ z)).1
          rw [e] at e1
          cases e1
          exact e2
theorem law_callG (KX : K.In s1.heap) (n1 : s1.heap.Ns mainGlobals mg) (n2 : s1.heap.Ns builtinsNs mb) (n3 : ∀ y : Str, y ≠ "__name__" → mb y = bootBuiltins y) (n4 : s1.heap.NoLimit) (ng : s1.gens = #[])
    (ea : s1.heap.get? a = some { cls := .type "list", data := .seq vs.toArray }) (hi : IntsAre vs ns) (hl : ns.length ≤ sizeLine) (hr : Room k callerA)
    (F : ∀ b0 : Heap, K.In b0 → b0.Ns mainGlobals mg → FnG P w K mg b0 CC k fa fd [x] sp) (bd : ∀ (s : Shared) (u : Value), BindsTo s fd ⟨[u], []⟩ [(x, u)])
    (hp : ∀ H : Hp, Only H → SqL K H a (ns.map V.int) → sp [.ref a] H (fun v _ => v = .bl true) fun _ _ _ => False) (nx : ∀ H e s', CC [] H s1 (fun _ _ _ => False) e s' → False) :
    codeAny (model P w) callerA (.call (.ref fa) ⟨[.ref a], []⟩) (lawEnd s1) s1 := by
  have rv := vals_ints hi
  have lv := hi.length
  by_cases hk : K.lookup a = none
  · -- the script is tracked, as it will stay
    have tr : ∀ b : Addr, b = a ∨ b ≠ a := fun b => Classical.em _
    refine law_core KX n1 n2 n3 n4 ng ea hr F bd nx (fun b => if b = a then some (.frz { cls := .type "list", data := .seq vs.toArray } (.lst (ns.map V.int))) else none) ?_ (hp _ ?_ ?_) ?_ ?_ fun _ => hk
    · intro b
      rcases tr b with q | q
      · exact .inr ⟨_, _, if_pos q⟩
      · exact .inl (if_neg q)
    · intro b
      rcases tr b with q | q
      · exact .inr ⟨_, _, if_pos q⟩
      · exact .inl (if_neg q)
    · exact .inl (.inr ⟨_, if_pos rfl⟩)
    · intro b u z
      rcases tr b with q | q
      · have z2 := (if_pos q).symm.trans z
        cases z2
        rw [q]
        exact ⟨ea, by simpa using hl, vs, _, rv, ea⟩
      · have z2 := (if_neg q).symm.trans z
        cases z2
    · intro b z
      rcases tr b with q | q
      · exact q
      · exact absurd (if_neg q) z
  · -- the script is one of the module's own objects
    obtain ⟨o, e⟩ := Option.ne_none_iff_exists'.mp hk
    have e2 := KX a o e
    rw [ea] at e2
    cases e2
    have q : SqL K (fun _ => none) a (ns.map V.int) := .inr ⟨_, vs.toArray, _, e, rfl, rfl, rfl, by simpa [lv] using hl, by simpa using rv⟩
    exact law_core KX n1 n2 n3 n4 ng ea hr F bd nx (fun _ => none) (fun _ => .inl rfl) (hp _ (fun _ => .inl rfl) q) (fun b u z => by cases z) (fun b z => absurd rfl z) fun z => absurd rfl z
end
/-- a law over a head by facts -/
theorem walk_ofG {l : PySem.W.OpenLaw} {n k : Nat} {q : Program} {loose : List Str} {XP : (Str → Option Value) → Heap → Prop} {YP : World → Heap → Prop} {d : DefRec} {CC : CXT} {x : Str} (hn : l.most = some n) (h2 : n ≤ sizeLine) (h3 : d.params.defaults = []) (hr : Room k callerA)
    (F : ∀ (w : World) (mg : Str → Option Value) (fa : Addr) (h : Heap), YP w h → h.Ns mainGlobals mg → mg d.name = some (.ref fa) → ∃ (K : PySem.W.Frag) (fd : FuncData) (sp : Sp), K.In h ∧ (∀ (s : Shared) (u : Value), BindsTo s fd ⟨[u], []⟩ [(x, u)]) ∧
      (∀ (H : Hp) (a : Addr) (ns : List Int), ns.length ≤ n → Only H → SqL K H a (ns.map V.int) → sp [.ref a] H (fun v _ => v = .bl true) fun _ _ _ => False) ∧ ∀ b0 : Heap, K.In b0 → b0.Ns mainGlobals mg → FnG l.prog w K mg b0 CC k fa fd [x] sp)
    (nx : ∀ (H : Hp) (s : Shared) (e : Value) (s' : Shared), CC [] H s (fun _ _ _ => False) e s' → False) : PySem.W.WalkO q loose XP YP l.row.toRowW d [] (fun f vs => PySem.call f vs) := by
  refine Att.attach_call hn h3 ?_
  intro w s0 s1 mg mb fa o pm cd doc a vs ns T Y ho hd hcd hmg ha hi hlen hg
  obtain ⟨K, fd, sp, KX, hb, hp, hF⟩ := F w mg fa _ Y T.T.g hmg
  exact law_callG KX T.T.g T.T.b T.T.builtins T.T.nolimit hg ha hi (Nat.le_trans hlen h2) hr hF hb (fun H hO hS => hp H a ns hlen hO hS) fun H e s' => nx H s1 e s'
/-- the law's end -/
theorem law_end {as : List Addr} {l : PySem.W.OpenLaw} {q : Program} {loose : List Str} {ents : List Ent} {cons : List (Str × PV)} {exc : List Str} {L : Lk} {dI : He.DefD} {d : DefRec} {e : Ent} (T : Txt L (mkPg ents cons exc) ents cons dI) (he : e ∈ ents) (hps : e.d.ps = [("script" : Str)]) (hnm : d.name = e.f) (hdf : d.params.defaults = [])
    (hfn : e.f ∈ L.fns) (hn : l.most = some 63) (n : Nat) (hr : Room (n + 3) callerA) (hb : ∀ ns : List Int, ns.length ≤ 63 → ∃ h', body (mkPg ents cons exc) (call (mkPg ents cons exc) n) e.d [.lst (ns.map .int)] [] = .ok (.bl true) h') :
    PySem.W.WalkO q loose (PySem.W.XL q []) (hookM as (chkK L exc cons) (fnsOf ents (mkPg ents cons exc) dI)).says l.row.toRowW d [] (fun f vs => PySem.call f vs) := by
  refine walk_ofG (l := l) (n := 63) (k := n + 3) (x := "script") (CC := fun _ _ _ _ _ _ => False) hn (by rw [sizeLine_eq]; decide) hdf hr ?_ (fun _ _ _ _ z => z)
  intro w mg fa h Y G hmg
  obtain ⟨K, KX, S⟩ := Y
  rw [hnm] at hmg
  have hc := S.chk
  have hglo : mg e.f = some (.ref (He.ga K e.f)) := by
    unfold chkK at hc
    simp only [Bool.and_eq_true, List.all_eq_true] at hc
    exact He.glo_ok KX G (hc.1.1.1.1.1.1 _ hfn)
  have efa := hmg.symm.trans hglo
  cases efa
  obtain ⟨fd, b1, b2⟩ := law_fn (P := l.prog) (w := w) T he hps KX G S hglo n
  exact ⟨K, fd, fun vs H Q _ => spF exc ⟨K, mg⟩ 1 (body (mkPg ents cons exc) (call (mkPg ents cons exc) n) e.d) vs H Q fun _ _ _ => False, KX, b1, fun H a ns hl hO hS => let ⟨h', e⟩ := hb ns hl; law_sp (h' := h') hO S.1 hS e, fun base q1 q2 => FnG_calm (b2 base q1 q2)⟩
/-! the same, told how long the script's numbers are -/
theorem walk_ofGB {l : PySem.W.OpenLaw} {n k : Nat} {q : Program} {loose : List Str} {XP : (Str → Option Value) → Heap → Prop} {YP : World → Heap → Prop} {d : DefRec} {CC : CXT} {x : Str} (hn : l.most = some n) (h2 : n ≤ sizeLine) (h3 : d.params.defaults = []) (hr : Room k callerA)
    (F : ∀ (w : World) (mg : Str → Option Value) (fa : Addr) (h : Heap), YP w h → h.Ns mainGlobals mg → mg d.name = some (.ref fa) → ∃ (K : PySem.W.Frag) (fd : FuncData) (sp : Sp), K.In h ∧ (∀ (s : Shared) (u : Value), BindsTo s fd ⟨[u], []⟩ [(x, u)]) ∧
      (∀ (H : Hp) (a : Addr) (ns : List Int), ns.length ≤ n → (∀ z ∈ ns, Builtin.Int.intBits z ≤ 1048576) → Only H → SqL K H a (ns.map V.int) → sp [.ref a] H (fun v _ => v = .bl true) fun _ _ _ => False) ∧ ∀ b0 : Heap, K.In b0 → b0.Ns mainGlobals mg → FnG l.prog w K mg b0 CC k fa fd [x] sp)
    (nx : ∀ (H : Hp) (s : Shared) (e : Value) (s' : Shared), CC [] H s (fun _ _ _ => False) e s' → False) : PySem.W.WalkO q loose XP YP l.row.toRowW d [] (fun f vs => PySem.call f vs) := by
  refine Att.attach_callB hn h3 ?_
  intro w s0 s1 mg mb fa o pm cd doc a vs ns T Y ho hd hcd hmg ha hi hlen hbits hg
  obtain ⟨K, fd, sp, KX, hb, hp, hF⟩ := F w mg fa _ Y T.T.g hmg
  exact law_callG KX T.T.g T.T.b T.T.builtins T.T.nolimit hg ha hi (Nat.le_trans hlen h2) hr hF hb (fun H hO hS => hp H a ns hlen hbits hO hS) fun H e s' => nx H s1 e s'
theorem law_endB {as : List Addr} {l : PySem.W.OpenLaw} {q : Program} {loose : List Str} {ents : List Ent} {cons : List (Str × PV)} {exc : List Str} {L : Lk} {dI : He.DefD} {d : DefRec} {e : Ent} (T : Txt L (mkPg ents cons exc) ents cons dI) (he : e ∈ ents) (hps : e.d.ps = [("script" : Str)]) (hnm : d.name = e.f) (hdf : d.params.defaults = [])
    (hfn : e.f ∈ L.fns) (hn : l.most = some 63) (n : Nat) (hr : Room (n + 3) callerA) (hb : ∀ ns : List Int, ns.length ≤ 63 → (∀ z ∈ ns, Builtin.Int.intBits z ≤ 1048576) → ∃ h', body (mkPg ents cons exc) (call (mkPg ents cons exc) n) e.d [.lst (ns.map .int)] [] = .ok (.bl true) h') :
    PySem.W.WalkO q loose (PySem.W.XL q []) (hookM as (chkK L exc cons) (fnsOf ents (mkPg ents cons exc) dI)).says l.row.toRowW d [] (fun f vs => PySem.call f vs) := by
  refine walk_ofGB (l := l) (n := 63) (k := n + 3) (x := "script") (CC := fun _ _ _ _ _ _ => False) hn (by rw [sizeLine_eq]; decide) hdf hr ?_ (fun _ _ _ _ z => z)
  intro w mg fa h Y G hmg
  obtain ⟨K, KX, S⟩ := Y
  rw [hnm] at hmg
  have hc := S.chk
  have hglo : mg e.f = some (.ref (He.ga K e.f)) := by
    unfold chkK at hc
    simp only [Bool.and_eq_true, List.all_eq_true] at hc
    exact He.glo_ok KX G (hc.1.1.1.1.1.1 _ hfn)
  have efa := hmg.symm.trans hglo
  cases efa
  obtain ⟨fd, b1, b2⟩ := law_fn (P := l.prog) (w := w) T he hps KX G S hglo n
  exact ⟨K, fd, fun vs H Q _ => spF exc ⟨K, mg⟩ 1 (body (mkPg ents cons exc) (call (mkPg ents cons exc) n) e.d) vs H Q fun _ _ _ => False, KX, b1, fun H a ns hl hz hO hS => let ⟨h', e⟩ := hb ns hl hz; law_sp (h' := h') hO S.1 hS e, fun base q1 q2 => FnG_calm (b2 base q1 q2)⟩
end Mx

end

section
set_option Elab.async false
set_option Elab.async false
set_option linter.all false
set_option maxRecDepth 100000
set_option maxHeartbeats 8000000
/-! Lemmas for runs of the small language. -/
namespace Mx
open PySem PySem.Spec PyProof.Rows L2
section
variable {α β : Type}
theorem Res.bind_ok (a : α) (h : MH) (f : α → MH → Res β) : (Res.ok a h).bind f = f a h := Eq.trans rfl rfl
theorem Res.bind_exn (c : Str) (v : PV) (h : MH) (f : α → MH → Res β) : (Res.exn c v h).bind f = .exn c v h := Eq.trans rfl rfl
theorem Res.out_ok (a : α) (h : MH) (ρ : Env') (f : α → MH → Out) : (Res.ok a h).out ρ f = f a h := Eq.trans rfl rfl
theorem Res.out_exn (c : Str) (v : PV) (h : MH) (ρ : Env') (f : α → MH → Out) : (Res.exn c v h : Res α).out ρ f = .exn c v ρ h := Eq.trans rfl rfl
@[simp] theorem Res.nox_ok (a : α) (h : MH) : (Res.ok a h).nox = .ok a h := Eq.trans rfl rfl
end
theorem Out.seq_nx (ρ : Env') (h : MH) (f : Env' → MH → Out) : (Out.nx ρ h).seq f = f ρ h := Eq.trans rfl rfl
theorem Out.seq_rt (v : PV) (h : MH) (f : Env' → MH → Out) : (Out.rt v h).seq f = .rt v h := Eq.trans rfl rfl
theorem Out.seq_exn (c : Str) (v : PV) (ρ : Env') (h : MH) (f : Env' → MH → Out) : (Out.exn c v ρ h).seq f = .exn c v ρ h := Eq.trans rfl rfl
theorem Out.seq_bk (ρ : Env') (h : MH) (f : Env' → MH → Out) : (Out.bk ρ h).seq f = .bk ρ h := Eq.trans rfl rfl
theorem Out.seq_ct (ρ : Env') (h : MH) (f : Env' → MH → Out) : (Out.ct ρ h).seq f = .ct ρ h := Eq.trans rfl rfl
theorem Out.turn_nx (ρ : Env') (h : MH) (f : Env' → MH → Out) : (Out.nx ρ h).turn f = f ρ h := Eq.trans rfl rfl
theorem Out.turn_ct (ρ : Env') (h : MH) (f : Env' → MH → Out) : (Out.ct ρ h).turn f = f ρ h := Eq.trans rfl rfl
theorem Out.turn_bk (ρ : Env') (h : MH) (f : Env' → MH → Out) : (Out.bk ρ h).turn f = .nx ρ h := Eq.trans rfl rfl
theorem Out.turn_rt (v : PV) (h : MH) (f : Env' → MH → Out) : (Out.rt v h).turn f = .rt v h := Eq.trans rfl rfl
theorem Out.turn_exn (c : Str) (v : PV) (ρ : Env') (h : MH) (f : Env' → MH → Out) : (Out.exn c v ρ h).turn f = .exn c v ρ h := Eq.trans rfl rfl
/-! ### what goes on behind is not looked at ahead -/
class Kt (T : Type) where
  k : T
section
variable {α β : Type}
def bnd (r : Res α) [f : Kt (α → MH → Res β)] : Res β := r.bind f.k
def otd (r : Res α) (ρ : Env') [f : Kt (α → MH → Out)] : Out := r.out ρ f.k
def sqd (o : Out) [f : Kt (Env' → MH → Out)] : Out := o.seq f.k
def tnd (o : Out) [f : Kt (Env' → MH → Out)] : Out := o.turn f.k
@[simp ↓] theorem bnd_hide (r : Res α) (f : α → MH → Res β) : r.bind f = @bnd α β r ⟨f⟩ := Eq.trans rfl rfl
@[simp ↓] theorem otd_hide (r : Res α) (ρ : Env') (f : α → MH → Out) : r.out ρ f = @otd α r ρ ⟨f⟩ := Eq.trans rfl rfl
@[simp ↓] theorem sqd_hide (o : Out) (f : Env' → MH → Out) : o.seq f = @sqd o ⟨f⟩ := Eq.trans rfl rfl
@[simp ↓] theorem tnd_hide (o : Out) (f : Env' → MH → Out) : o.turn f = @tnd o ⟨f⟩ := Eq.trans rfl rfl
@[simp] theorem bnd_ok (a : α) (h : MH) (f : α → MH → Res β) : @bnd α β (.ok a h) ⟨f⟩ = f a h := Eq.trans rfl rfl
@[simp] theorem bnd_exn (c : Str) (v : PV) (h : MH) (f : α → MH → Res β) : @bnd α β (.exn c v h) ⟨f⟩ = .exn c v h := Eq.trans rfl rfl
@[simp] theorem otd_ok (a : α) (h : MH) (ρ : Env') (f : α → MH → Out) : @otd α (.ok a h) ρ ⟨f⟩ = f a h := Eq.trans rfl rfl
@[simp] theorem otd_exn (c : Str) (v : PV) (h : MH) (ρ : Env') (f : α → MH → Out) : @otd α (.exn c v h) ρ ⟨f⟩ = .exn c v ρ h := Eq.trans rfl rfl
@[simp] theorem sqd_nx (ρ : Env') (h : MH) (f : Env' → MH → Out) : @sqd (.nx ρ h) ⟨f⟩ = f ρ h := Eq.trans rfl rfl
@[simp] theorem sqd_rt (v : PV) (h : MH) (f : Env' → MH → Out) : @sqd (.rt v h) ⟨f⟩ = .rt v h := Eq.trans rfl rfl
@[simp] theorem sqd_exn (c : Str) (v : PV) (ρ : Env') (h : MH) (f : Env' → MH → Out) : @sqd (.exn c v ρ h) ⟨f⟩ = .exn c v ρ h := Eq.trans rfl rfl
@[simp] theorem sqd_bk (ρ : Env') (h : MH) (f : Env' → MH → Out) : @sqd (.bk ρ h) ⟨f⟩ = .bk ρ h := Eq.trans rfl rfl
@[simp] theorem sqd_ct (ρ : Env') (h : MH) (f : Env' → MH → Out) : @sqd (.ct ρ h) ⟨f⟩ = .ct ρ h := Eq.trans rfl rfl
@[simp] theorem tnd_nx (ρ : Env') (h : MH) (f : Env' → MH → Out) : @tnd (.nx ρ h) ⟨f⟩ = f ρ h := Eq.trans rfl rfl
@[simp] theorem tnd_ct (ρ : Env') (h : MH) (f : Env' → MH → Out) : @tnd (.ct ρ h) ⟨f⟩ = f ρ h := Eq.trans rfl rfl
@[simp] theorem tnd_bk (ρ : Env') (h : MH) (f : Env' → MH → Out) : @tnd (.bk ρ h) ⟨f⟩ = .nx ρ h := Eq.trans rfl rfl
@[simp] theorem tnd_rt (v : PV) (h : MH) (f : Env' → MH → Out) : @tnd (.rt v h) ⟨f⟩ = .rt v h := Eq.trans rfl rfl
@[simp] theorem tnd_exn (c : Str) (v : PV) (ρ : Env') (h : MH) (f : Env' → MH → Out) : @tnd (.exn c v ρ h) ⟨f⟩ = .exn c v ρ h := Eq.trans rfl rfl
end
/-! ### a call -/
theorem call_at {P : Pg} {f : Str} {d : Fn} {n : Nat} {xs ys as : List PV} {ks : List Str} {h : MH} (hf : P.fns f = some d) (ha : argsOf d.ps xs ks ys = some as) : call P (n + 1) f xs ks ys h = body P (call P n) d as h := by
  show (match P.fns f with
    | none => Res.stuck
    | some d => match argsOf d.ps xs ks ys with
      | none => .stuck
      | some as => body P (call P n) d as h) = _
  rw [hf]
  dsimp only
  rw [ha]
theorem args_pos {ps : List Str} {xs : List PV} (h : xs.length = ps.length) : argsOf ps xs [] [] = some xs := by
  unfold argsOf
  rw [if_pos ⟨by simpa using h, rfl, List.nodup_nil, fun k hk => by cases hk⟩]
  rw [h, List.drop_length]
  simp [looks]
/-! ### the end of a def -/
theorem thaw_of {n : Nat} {h : MH} {v : PV} (hv : ∀ k, v ≠ .ref k) : thaw n h v = v := by
  cases v <;> first | rfl | exact absurd rfl (hv _)
theorem leave_len {h h' : MH} {v : PV} (hl : h'.length = h.length) (hv : ∀ k, v ≠ .ref k) : leave h v h' = (v, h') := by
  unfold leave
  by_cases hc : below h.length (thaw h.length h' v) ∧ tidy h h' ∧ h.length ≤ h'.length
  · rw [if_pos hc, thaw_of hv, List.take_of_length_le (by omega)]
  · rw [if_neg hc]
theorem leave_ref {h h' : MH} {k : Nat} (hl : h'.length = h.length) (hk : k < h.length) : leave h (.ref k) h' = (.ref k, h') := by
  unfold leave
  have e : thaw h.length h' (.ref k) = .ref k := by
    show (if k < h.length then PV.ref k else _) = _
    rw [if_pos hk]
  by_cases hc : below h.length (thaw h.length h' (.ref k)) ∧ tidy h h' ∧ h.length ≤ h'.length
  · rw [if_pos hc, e, List.take_of_length_le (by omega)]
  · rw [if_neg hc]
/-- new things are dropped -/
theorem leave_drop {h h' : MH} {v : PV} (hl : h.length ≤ h'.length) (ht : h'.take h.length = h) (hv : ∀ k, v ≠ .ref k) (hb : below h.length v) : leave h v h' = (v, h) := by
  unfold leave
  rw [thaw_of hv]
  have hd : tidy h h' := fun n o hn e => by
    have : (h'.take h.length)[n]? = some o := by rw [List.getElem?_take_of_lt hn]; exact e
    rw [ht] at this
    exact .inl this
  rw [if_pos ⟨hb, hd, hl⟩, ht]
@[simp] theorem leave_self {h : MH} {v : PV} (hv : ∀ k, v ≠ .ref k) : leave h v h = (v, h) := leave_len rfl hv
theorem leave_non (h : MH) : leave h .non h = (.non, h) := leave_len rfl fun k e => by cases e
theorem leave_bl (h : MH) (b : Bool) : leave h (.bl b) h = (.bl b, h) := leave_len rfl fun k e => by cases e
theorem leave_int (h : MH) (i : Int) : leave h (.int i) h = (.int i, h) := leave_len rfl fun k e => by cases e
theorem leave_str (h : MH) (x : Str) : leave h (.str x) h = (.str x, h) := leave_len rfl fun k e => by cases e
theorem leave_tup (h : MH) (xs : List PV) : leave h (.tup xs) h = (.tup xs, h) := leave_len rfl fun k e => by cases e
theorem leave_lst (h : MH) (xs : List PV) : leave h (.lst xs) h = (.lst xs, h) := leave_len rfl fun k e => by cases e
theorem res_rt {h h' : MH} {v : PV} (e : leave h v h' = (v, h')) : (Out.rt v h').res false h = .ok v h' := by
  show Res.ok (leave h v h').1 (leave h v h').2 = _
  rw [e]
theorem res_nx {h h' : MH} {ρ : Env'} (e : leave h .non h' = (.non, h')) : (Out.nx ρ h').res false h = .ok .non h' := by
  show Res.ok (leave h .non h').1 (leave h .non h').2 = _
  rw [e]
theorem res_exn {h h' : MH} {ρ : Env'} {c : Str} {v : PV} (e : leave h v h' = (v, h')) : (Out.exn c v ρ h').res false h = .exn c v h' := by
  show Res.exn c (leave h v h').1 (leave h v h').2 = _
  rw [e]
theorem res_kp {h h' : MH} {v : PV} : (Out.rt v h').res true h = .ok v h' := rfl

@[simp] theorem ixN_0 (n : Nat) : ixN (n + 1) 0 = some 0 := by
  unfold ixN
  rw [if_pos (Int.le_refl 0), if_pos (by omega)]
  rfl
@[simp] theorem ixN_1 (n : Nat) : ixN (n + 1 + 1) 1 = some 1 := by
  unfold ixN
  rw [if_pos (by decide), if_pos (by omega)]
  rfl
@[simp] theorem atI_0 {α : Type} (x : α) (xs : List α) : atI (x :: xs) 0 = some x := by
  unfold atI
  rw [List.length_cons, ixN_0]
  rfl
@[simp] theorem atI_1 {α : Type} (x y : α) (xs : List α) : atI (x :: y :: xs) 1 = some y := by
  unfold atI
  rw [List.length_cons, List.length_cons, ixN_1]
  rfl
theorem fits_of {i j : Int} (h1 : i.natAbs < 2 ^ 9000) (h2 : j.natAbs < 2 ^ 9000) : fits i j := by
  have l : ∀ n : Nat, n < 2 ^ 9000 → n.log2 < 9001 := fun n h => by
    by_cases h0 : n = 0
    · subst h0; decide
    · have := (Nat.log2_lt h0).mpr h
      omega
  have a := l _ h1
  have b := l _ h2
  show i.natAbs.log2 + j.natAbs.log2 < 2000000
  omega
theorem fitd_of {j : Int} (h : j.natAbs < 2 ^ 8999) : fitd j := by
  show j.natAbs.log2 < 9000
  by_cases h0 : j.natAbs = 0
  · rw [h0]; decide
  · have := (Nat.log2_lt h0).mpr h
    omega

/-! ### while -/
theorem whl_more {c : Env' → MH → Res Bool} {b : Env' → MH → Out} : ∀ {n : Nat} {ρ : Env'} {h : MH}, whlN c b n ρ h ≠ .stuck → whlN c b (n + 1) ρ h = whlN c b n ρ h
  | 0, ρ, h, e => absurd rfl e
  | n + 1, ρ, h, e => by
    have e' : ((c ρ h).out ρ fun t h => if t = true then (b ρ h).turn (whlN c b n) else .nx ρ h) ≠ .stuck := e
    show ((c ρ h).out ρ fun t h => if t = true then (b ρ h).turn (whlN c b (n + 1)) else .nx ρ h) = ((c ρ h).out ρ fun t h => if t = true then (b ρ h).turn (whlN c b n) else .nx ρ h)
    cases hc : c ρ h with
    | stuck => rfl
    | exn _ _ _ => rfl
    | ok t h1 =>
      rw [hc] at e'
      simp only [Res.out_ok] at e' ⊢
      cases t with
      | false => rfl
      | true =>
        rw [if_pos rfl] at e' ⊢
        rw [if_pos rfl]
        cases hb : b ρ h1 with
        | nx ρ2 h2 => rw [hb] at e'; exact whl_more e'
        | ct ρ2 h2 => rw [hb] at e'; exact whl_more e'
        | bk _ _ => rfl
        | rt _ _ => rfl
        | exn _ _ _ _ => rfl
        | stuck => rfl
theorem whl_le {c : Env' → MH → Res Bool} {b : Env' → MH → Out} {n : Nat} {ρ : Env'} {h : MH} (e : whlN c b n ρ h ≠ .stuck) : ∀ k, whlN c b (n + k) ρ h = whlN c b n ρ h
  | 0 => rfl
  | k + 1 => by
    have ih := whl_le e k
    rw [← Nat.add_assoc, whl_more (by rw [ih]; exact e), ih]
theorem whl_eq {c : Env' → MH → Res Bool} {b : Env' → MH → Out} {n : Nat} {ρ : Env'} {h : MH} {o : Out} (e : whlN c b n ρ h = o) (ho : o ≠ .stuck) : whlE c b ρ h = o := by
  have hn : whlN c b n ρ h ≠ .stuck := by rw [e]; exact ho
  unfold whlE
  have ex : ∃ n, whlN c b n ρ h ≠ .stuck := ⟨n, hn⟩
  rw [dif_pos ex]
  have hm := Classical.choose_spec ex
  generalize Classical.choose ex = m at hm ⊢
  rw [← e]
  rcases Nat.le_total m n with q | q
  · obtain ⟨k, rfl⟩ := Nat.exists_eq_add_of_le q
    exact (whl_le hm k).symm
  · obtain ⟨k, rfl⟩ := Nat.exists_eq_add_of_le q
    exact whl_le hn k
theorem whlN_step {c : Env' → MH → Res Bool} {b : Env' → MH → Out} {n : Nat} {ρ : Env'} {h : MH} : whlN c b (n + 1) ρ h = (c ρ h).out ρ fun t h => if t = true then (b ρ h).turn (whlN c b n) else .nx ρ h := rfl
/-! ### comprehensions, loops -/
theorem compL_nil {body : PV → MH → Res (Option PV)} {l : List (Nat × List PV)} {acc : List PV} {h : MH} (hc : chk l h) : compL body l [] acc h = .ok acc h := by
  unfold compL
  rw [if_pos hc]
def addO (acc : List PV) (o : Option PV) : List PV := match o with
  | none => acc
  | some y => acc ++ [y]
theorem compL_cons {body : PV → MH → Res (Option PV)} {l : List (Nat × List PV)} {x : PV} {xs acc : List PV} {h h1 : MH} {o : Option PV} (hc : chk l h) (hb : body x h = .ok o h1) : compL body l (x :: xs) acc h = compL body l xs (addO acc o) h1 := by
  conv => lhs; unfold compL
  rw [if_pos hc, hb]
  rfl
theorem compL_none {body : PV → MH → Res (Option PV)} {l : List (Nat × List PV)} {h : MH} (hc : chk l h) : ∀ {xs acc : List PV}, (∀ x ∈ xs, body x h = .ok none h) → compL body l xs acc h = .ok acc h
  | [], acc, _ => compL_nil hc
  | x :: xs, acc, hb => by
    rw [compL_cons hc (hb x List.mem_cons_self)]
    show compL body l xs acc h = _
    exact compL_none hc fun y hy => hb y (List.mem_cons_of_mem _ hy)
/-- each item gives one -/
theorem compL_map {body : PV → MH → Res (Option PV)} {l : List (Nat × List PV)} {h : MH} (hc : chk l h) {g : PV → PV} : ∀ {xs acc : List PV}, (∀ x ∈ xs, body x h = .ok (some (g x)) h) → compL body l xs acc h = .ok (acc ++ xs.map g) h
  | [], acc, _ => by rw [compL_nil hc]; simp
  | x :: xs, acc, hb => by
    rw [compL_cons hc (hb x List.mem_cons_self)]
    show compL body l xs (acc ++ [g x]) h = _
    rw [compL_map hc fun y hy => hb y (List.mem_cons_of_mem _ hy)]
    simp
theorem chk_nil {h : MH} : chk [] h := fun p hp => by cases hp
theorem forL_nil {body : PV → Env' → MH → Out} {l : List (Nat × List PV)} {ρ : Env'} {h : MH} (hc : chk l h) : forL body l [] ρ h = .nx ρ h := by
  unfold forL
  rw [if_pos hc]
theorem forL_cons {body : PV → Env' → MH → Out} {l : List (Nat × List PV)} {x : PV} {xs : List PV} {ρ : Env'} {h : MH} (hc : chk l h) : forL body l (x :: xs) ρ h = (body x ρ h).turn (forL body l xs) := by
  conv => lhs; unfold forL
  rw [if_pos hc]
theorem ixN_nat {n i : Nat} (h : i < n) : ixN n (i : Int) = some i := by
  unfold ixN
  rw [if_pos (by omega), if_pos (by omega)]
  rfl
theorem atI_nat {α : Type} {xs : List α} {i : Nat} (h : i < xs.length) : atI xs (i : Int) = some xs[i] := by
  unfold atI
  rw [ixN_nat h]
  exact List.getElem?_eq_getElem h

@[simp] theorem forL_nil0 {body : PV → Env' → MH → Out} {ρ : Env'} {h : MH} : forL body [] [] ρ h = .nx ρ h := forL_nil chk_nil
@[simp] theorem forL_cons0 {body : PV → Env' → MH → Out} {x : PV} {xs : List PV} {ρ : Env'} {h : MH} : forL body [] (x :: xs) ρ h = (body x ρ h).turn (forL body [] xs) := forL_cons chk_nil
/-- a call by names -/
theorem call_kw {P : Pg} {f : Str} {d : Fn} {n : Nat} {xs ys as : List PV} {ks : List Str} {h : MH} (hf : P.fns f = some d) (ha : argsOf d.ps xs ks ys = some as) (hl : as.length = d.ps.length) : call P (n + 1) f xs ks ys h = call P (n + 1) f as [] [] h := by
  rw [call_at hf ha, call_at hf (args_pos hl)]

section
variable {P : Pg} {cl : Calls} {elt : Ae} {g : Ag} {it : Ai} {ifs : Ao} {own : List (Str × Nat)} {ρ : Env'} {h h' : MH} {s : Src}
/-- a comprehension that takes none -/
theorem comp_none (hi : evi P cl it ρ h = .ok s h') (hc : chk s.1 h') (hb : ∀ x ∈ s.2, ∃ ρ', bindG g x (wipeP ρ (own.map (·.2))) h' = some ρ' ∧ evIfs P cl ifs ρ' h' = .ok false h') : ev P cl (.comp false elt g it ifs own) ρ h = .ok (.lst []) h' := by
  have e : ev P cl (.comp false elt g it ifs own) ρ h = (evi P cl it ρ h).bind fun s h => (compL (fun x h => Res.nox (match bindG g x (wipeP ρ (own.map (·.2))) h with
      | some ρ' => (evIfs P cl ifs ρ' h).bind fun b h => if b = true then (ev P cl elt ρ' h).bind fun y h => .ok (some y) h else .ok none h
      | none => .stuck)) s.1 s.2 [] h).bind fun xs h => if xs.length ≤ sizeLine then mkLst false xs h else .stuck := rfl
  rw [e, hi, Res.bind_ok, compL_none hc fun x hx => ?_]
  · rw [Res.bind_ok, if_pos (by rw [List.length_nil]; exact Nat.zero_le _)]
    rfl
  · obtain ⟨ρ', e1, e2⟩ := hb x hx
    rw [e1]
    dsimp only
    rw [e2, Res.bind_ok, if_neg Bool.false_ne_true]
    rfl
/-- a comprehension that takes all -/
theorem comp_map {f : PV → PV} (hi : evi P cl it ρ h = .ok s h') (hc : chk s.1 h') (hl : s.2.length ≤ sizeLine) (hb : ∀ x ∈ s.2, ∃ ρ', bindG g x (wipeP ρ (own.map (·.2))) h' = some ρ' ∧ evIfs P cl ifs ρ' h' = .ok true h' ∧ ev P cl elt ρ' h' = .ok (f x) h') : ev P cl (.comp false elt g it ifs own) ρ h = .ok (.lst (s.2.map f)) h' := by
  have e : ev P cl (.comp false elt g it ifs own) ρ h = (evi P cl it ρ h).bind fun s h => (compL (fun x h => Res.nox (match bindG g x (wipeP ρ (own.map (·.2))) h with
      | some ρ' => (evIfs P cl ifs ρ' h).bind fun b h => if b = true then (ev P cl elt ρ' h).bind fun y h => .ok (some y) h else .ok none h
      | none => .stuck)) s.1 s.2 [] h).bind fun xs h => if xs.length ≤ sizeLine then mkLst false xs h else .stuck := rfl
  rw [e, hi, Res.bind_ok, compL_map (g := f) hc fun x hx => ?_]
  · rw [Res.bind_ok, List.nil_append, if_pos (by rw [List.length_map]; exact hl)]
    rfl
  · obtain ⟨ρ', e1, e2, e3⟩ := hb x hx
    rw [e1]
    dsimp only
    rw [e2, Res.bind_ok, if_pos rfl, e3]
    rfl
end

theorem rng1 {P : Pg} {cl : Calls} {e : Ae} {ρ : Env'} {h h' : MH} {n : Int} (he : ev P cl e ρ h = .ok (.int n) h') (h1 : -(2 ^ 62) ≤ n ∧ n < 2 ^ 62) : evi P cl (.range1 e) ρ h = .ok ([], (List.range n.toNat).map fun (k : Nat) => PV.int (k : Int)) h' := by
  have e1 : evi P cl (.range1 e) ρ h = (ev P cl e ρ h).bind fun x h => match x with
    | .int j => if -(2 ^ 62) ≤ j ∧ j < 2 ^ 62 then .ok ([], (List.range j.toNat).map fun (k : Nat) => PV.int (k : Int)) h else .stuck
    | _ => .stuck := rfl
  rw [e1, he, Res.bind_ok]
  dsimp only
  rw [if_pos h1]
theorem rng2 {P : Pg} {cl : Calls} {a b : Ae} {ρ : Env'} {h h' h2 : MH} {i j : Int} (ha : ev P cl a ρ h = .ok (.int i) h') (hb : ev P cl b ρ h' = .ok (.int j) h2) (h1 : -(2 ^ 62) ≤ i ∧ i < 2 ^ 62 ∧ -(2 ^ 62) ≤ j ∧ j < 2 ^ 62) : evi P cl (.range2 a b) ρ h = .ok ([], (List.range (j - i).toNat).map fun (k : Nat) => PV.int (i + (k : Int))) h2 := by
  have e1 : evi P cl (.range2 a b) ρ h = (ev P cl a ρ h).bind fun x h => (ev P cl b ρ h).bind fun y h => match x, y with
    | .int i, .int j => if -(2 ^ 62) ≤ i ∧ i < 2 ^ 62 ∧ -(2 ^ 62) ≤ j ∧ j < 2 ^ 62 then .ok ([], (List.range (j - i).toNat).map fun (k : Nat) => PV.int (i + (k : Int))) h else .stuck
    | _, _ => .stuck := rfl
  rw [e1, ha, Res.bind_ok, hb, Res.bind_ok]
  dsimp only
  rw [if_pos h1]
theorem evi_ex {P : Pg} {cl : Calls} {e : Ae} {ρ : Env'} {h : MH} : evi P cl (.ex e) ρ h = (ev P cl e ρ h).bind fun x h => match src x h with
    | some s => .ok s h
    | none => .stuck := rfl
end Mx

end

section
set_option Elab.async false
set_option Elab.async false
set_option linter.all false
set_option maxRecDepth 100000
set_option maxHeartbeats 8000000
/-! The runs' equations. -/
namespace Mx
open PySem PySem.Spec PyProof.Rows L2
theorem q_ev_v {P : Pg} {cl : Calls} {i ρ h} : ev P cl (.v i) ρ h = match ρ[i]? with
    | some (some x) => .ok x h
    | _ => .stuck := Eq.trans rfl rfl
theorem q_ev_non {P : Pg} {cl : Calls} {u1 h} : ev P cl .non u1 h = .ok .non h := Eq.trans rfl rfl
theorem q_ev_bl {P : Pg} {cl : Calls} {b u1 h} : ev P cl (.bl b) u1 h = .ok (.bl b) h := Eq.trans rfl rfl
theorem q_ev_int {P : Pg} {cl : Calls} {i u1 h} : ev P cl (.int i) u1 h = .ok (.int i) h := Eq.trans rfl rfl
theorem q_ev_str {P : Pg} {cl : Calls} {x u1 h} : ev P cl (.str x) u1 h = .ok (.str x) h := Eq.trans rfl rfl
theorem q_ev_con {P : Pg} {cl : Calls} {x u1 h} : ev P cl (.con x) u1 h = match P.con x with
    | some v => .ok v h
    | none => .stuck := Eq.trans rfl rfl
theorem q_ev_tup {P : Pg} {cl : Calls} {es ρ h} : ev P cl (.tup es) ρ h = (evs P cl es ρ h).bind fun xs h => .ok (.tup xs) h := Eq.trans rfl rfl
theorem q_ev_lst {P : Pg} {cl : Calls} {r es ρ h} : ev P cl (.lst r es) ρ h = (evs P cl es ρ h).bind fun xs h => mkLst r xs h := Eq.trans rfl rfl
theorem q_ev_bin {P : Pg} {cl : Calls} {op r a b ρ h} : ev P cl (.bin op r a b) ρ h = (ev P cl a ρ h).bind fun x h => (ev P cl b ρ h).bind fun y h => binop op r x y h := Eq.trans rfl rfl
theorem q_ev_neg {P : Pg} {cl : Calls} {a ρ h} : ev P cl (.neg a) ρ h = (ev P cl a ρ h).bind fun x h => match x with
    | .int i => .ok (.int (-i)) h
    | _ => .stuck := Eq.trans rfl rfl
theorem q_ev_not {P : Pg} {cl : Calls} {a ρ h} : ev P cl (.not a) ρ h = (ev P cl a ρ h).bind fun x h => ofB ((truthy h x).map (!·)) h := Eq.trans rfl rfl
theorem q_ev_cmp {P : Pg} {cl : Calls} {op a b ρ h} : ev P cl (.cmp op a b) ρ h = (ev P cl a ρ h).bind fun x h => (ev P cl b ρ h).bind fun y h => ofB (cmpop op x y h) h := Eq.trans rfl rfl
theorem q_ev_chain {P : Pg} {cl : Calls} {op op' a b c ρ h} : ev P cl (.chain op op' a b c) ρ h = (ev P cl a ρ h).bind fun x h => (ev P cl b ρ h).bind fun y h => match cmpop op x y h with
    | some true => (ev P cl c ρ h).bind fun z h => ofB (cmpop op' y z h) h
    | some false => .ok (.bl false) h
    | none => .stuck := Eq.trans rfl rfl
theorem q_ev_and {P : Pg} {cl : Calls} {es ρ h} : ev P cl (.and es) ρ h = evAnd P cl es ρ h := Eq.trans rfl rfl
theorem q_ev_or {P : Pg} {cl : Calls} {es ρ h} : ev P cl (.or es) ρ h = evOr P cl es ρ h := Eq.trans rfl rfl
theorem q_ev_ifx {P : Pg} {cl : Calls} {c a b ρ h} : ev P cl (.ifx c a b) ρ h = (ev P cl c ρ h).bind fun x h => match truthy h x with
    | some true => ev P cl a ρ h
    | some false => ev P cl b ρ h
    | none => .stuck := Eq.trans rfl rfl
theorem q_ev_ix {P : Pg} {cl : Calls} {a i ρ h} : ev P cl (.ix a i) ρ h = (ev P cl a ρ h).bind fun x h => (ev P cl i ρ h).bind fun y h => ixop x y h := Eq.trans rfl rfl
theorem q_ev_sl {P : Pg} {cl : Calls} {r a lo hi ρ h} : ev P cl (.sl r a lo hi) ρ h = (ev P cl a ρ h).bind fun x h => (evo P cl lo ρ h).bind fun l h => (evo P cl hi ρ h).bind fun u h => slop r x l u h := Eq.trans rfl rfl
theorem q_ev_call {P : Pg} {cl : Calls} {f es ks kes ρ h} : ev P cl (.call f es ks kes) ρ h = (evs P cl es ρ h).bind fun xs h => (evs P cl kes ρ h).bind fun ys h => cl f xs ks ys h := Eq.trans rfl rfl
theorem q_ev_blt {P : Pg} {cl : Calls} {f r es ρ h} : ev P cl (.blt f r es) ρ h = (evs P cl es ρ h).bind fun xs h => bltop f r xs h := Eq.trans rfl rfl
theorem q_ev_isi {P : Pg} {cl : Calls} {a ts ρ h} : ev P cl (.isi a ts) ρ h = (ev P cl a ρ h).bind fun x h => ofB (isiop x ts h) h := Eq.trans rfl rfl
theorem q_ev_met {P : Pg} {cl : Calls} {m r o es ρ h} : ev P cl (.met m r o es) ρ h = (ev P cl o ρ h).bind fun x h => if metok m es.len x h = true then (evs P cl es ρ h).bind fun xs h => metop m r x xs h else .stuck := Eq.trans rfl rfl
theorem q_ev_tupS {P : Pg} {cl : Calls} {es ρ h} : ev P cl (.tupS es) ρ h = (evs P cl es ρ h).bind fun xs h => if xs.length ≤ sizeLine then .ok (.tup xs) h else .stuck := Eq.trans rfl rfl
theorem q_ev_lstS {P : Pg} {cl : Calls} {r es ρ h} : ev P cl (.lstS r es) ρ h = (evs P cl es ρ h).bind fun xs h => if xs.length ≤ sizeLine then mkLst r xs h else .stuck := Eq.trans rfl rfl
theorem q_ev_rev {P : Pg} {cl : Calls} {r a ρ h} : ev P cl (.rev r a) ρ h = (ev P cl a ρ h).bind fun x h => revop r x h := Eq.trans rfl rfl
theorem q_ev_dnew {P : Pg} {cl : Calls} {ps ρ h} : ev P cl (.dnew ps) ρ h = (evD P cl ps ρ h).bind fun ps h => mkDic (kmerge [] ps) h := Eq.trans rfl rfl
theorem q_ev_dzip {P : Pg} {cl : Calls} {a b ρ h} : ev P cl (.dzip a b) ρ h = (ev P cl a ρ h).bind fun x h => (ev P cl b ρ h).bind fun y h => dzipop x y h := Eq.trans rfl rfl
theorem q_ev_fnv {P : Pg} {cl : Calls} {f u1 h} : ev P cl (.fnv f) u1 h = if (P.fns f).isSome = true then .ok (.fn f) h else .stuck := Eq.trans rfl rfl
theorem q_ev_calv {P : Pg} {cl : Calls} {i es ρ h} : ev P cl (.calv i es) ρ h = match ρ[i]? with
    | some (some (.fn f)) => if (P.fns f).isSome = true then (evs P cl es ρ h).bind fun xs h => cl f xs [] [] h else .stuck
    | _ => .stuck := Eq.trans rfl rfl
theorem q_ev_comp {P : Pg} {cl : Calls} {r elt g it ifs own ρ h} : ev P cl (.comp r elt g it ifs own) ρ h = (evi P cl it ρ h).bind fun s h => (compL (fun x h => Res.nox (match bindG g x (wipeP ρ (own.map (·.2))) h with
      | some ρ' => (evIfs P cl ifs ρ' h).bind fun b h => if b = true then (ev P cl elt ρ' h).bind fun y h => .ok (some y) h else .ok none h
      | none => .stuck)) s.1 s.2 [] h).bind fun xs h => if xs.length ≤ sizeLine then mkLst r xs h else .stuck := Eq.trans rfl rfl
theorem q_ev_comp2 {P : Pg} {cl : Calls} {r elt g it g2 it2 own vs2 ρ h} : ev P cl (.comp2 r elt g it g2 it2 own vs2) ρ h = (evi P cl it ρ h).bind fun s h => (compA (fun x acc h => Res.nox (match bindG g x (wipeP ρ (own.map (·.2))) h with
      | some ρ' => (evi P cl it2 ρ' h).bind fun s2 h => compL (fun x h => match bindG g2 x (wipeP ρ' vs2) h with
          | some ρ2 => (ev P cl elt ρ2 h).bind fun y h => .ok (some y) h
          | none => .stuck) s2.1 s2.2 acc h
      | none => .stuck)) s.1 s.2 [] h).bind fun xs h => if xs.length ≤ sizeLine then mkLst r xs h else .stuck := Eq.trans rfl rfl
theorem q_ev_dcomp {P : Pg} {cl : Calls} {k v g it ifs own ρ h} : ev P cl (.dcomp k v g it ifs own) ρ h = (evi P cl it ρ h).bind fun s h => (compD (fun x h => Res.nox (match bindG g x (wipeP ρ (own.map (·.2))) h with
      | some ρ' => (evIfs P cl ifs ρ' h).bind fun b h => if b = true then (ev P cl k ρ' h).bind fun y h => (ev P cl v ρ' h).bind fun z h => match keyOf y with
          | some j => .ok (some (j, z)) h
          | none => .stuck
        else .ok none h
      | none => .stuck)) s.1 s.2 [] h).bind fun ps h => mkDic ps h := Eq.trans rfl rfl
theorem q_ev_sls {P : Pg} {cl : Calls} {r a lo st ρ h} : ev P cl (.sls r a lo st) ρ h = (ev P cl a ρ h).bind fun x h => (evo P cl lo ρ h).bind fun l h => slsop r x l st h := Eq.trans rfl rfl
theorem q_ev_val {P : Pg} {cl : Calls} {i ρ h} : ev P cl (.val i) ρ h = match ρ[i]? with
    | some (some (.exn c v)) => if P.exc.contains c = true then .ok v h else .stuck
    | _ => .stuck := Eq.trans rfl rfl
theorem q_evs_nil {P : Pg} {cl : Calls} {u1 h} : evs P cl .nil u1 h = .ok [] h := Eq.trans rfl rfl
theorem q_evs_cons {P : Pg} {cl : Calls} {e es ρ h} : evs P cl (.cons e es) ρ h = (ev P cl e ρ h).bind fun x h => (evs P cl es ρ h).bind fun xs h => .ok (x :: xs) h := Eq.trans rfl rfl
theorem q_evs_star {P : Pg} {cl : Calls} {e es ρ h} : evs P cl (.star e es) ρ h = (ev P cl e ρ h).bind fun x h => match items h x with
    | some ys => (evs P cl es ρ h).bind fun xs h => .ok (ys ++ xs) h
    | none => .stuck := Eq.trans rfl rfl
theorem q_evD_nil {P : Pg} {cl : Calls} {u1 h} : evD P cl .nil u1 h = .ok [] h := Eq.trans rfl rfl
theorem q_evD_cons {P : Pg} {cl : Calls} {k v ps ρ h} : evD P cl (.cons k v ps) ρ h = (ev P cl k ρ h).bind fun x h => (ev P cl v ρ h).bind fun y h => match keyOf x with
    | some j => (evD P cl ps ρ h).bind fun qs h => .ok ((j, y) :: qs) h
    | none => .stuck := Eq.trans rfl rfl
theorem q_evAnd_nil {P : Pg} {cl : Calls} {u1 u2} : evAnd P cl .nil u1 u2 = .stuck := Eq.trans rfl rfl
theorem q_evAnd_star {P : Pg} {cl : Calls} {w1 w2 u1 u2} : evAnd P cl (.star w1 w2) u1 u2 = .stuck := Eq.trans rfl rfl
theorem q_evAnd_cons {P : Pg} {cl : Calls} {e ρ h} : evAnd P cl (.cons e .nil) ρ h = ev P cl e ρ h := Eq.trans rfl rfl
theorem q_evAnd_cons2 {P : Pg} {cl : Calls} {e e2 es ρ h} : evAnd P cl (.cons e (.cons e2 es)) ρ h = (ev P cl e ρ h).bind fun x h => match truthy h x with
    | some true => evAnd P cl (.cons e2 es) ρ h
    | some false => .ok x h
    | none => .stuck := Eq.trans rfl rfl
theorem q_evOr_nil {P : Pg} {cl : Calls} {u1 u2} : evOr P cl .nil u1 u2 = .stuck := Eq.trans rfl rfl
theorem q_evOr_star {P : Pg} {cl : Calls} {w1 w2 u1 u2} : evOr P cl (.star w1 w2) u1 u2 = .stuck := Eq.trans rfl rfl
theorem q_evOr_cons {P : Pg} {cl : Calls} {e ρ h} : evOr P cl (.cons e .nil) ρ h = ev P cl e ρ h := Eq.trans rfl rfl
theorem q_evOr_cons2 {P : Pg} {cl : Calls} {e e2 es ρ h} : evOr P cl (.cons e (.cons e2 es)) ρ h = (ev P cl e ρ h).bind fun x h => match truthy h x with
    | some true => .ok x h
    | some false => evOr P cl (.cons e2 es) ρ h
    | none => .stuck := Eq.trans rfl rfl
theorem q_evIfs_none {P : Pg} {cl : Calls} {u1 h} : evIfs P cl .none u1 h = .ok true h := Eq.trans rfl rfl
theorem q_evIfs_some {P : Pg} {cl : Calls} {e ρ h} : evIfs P cl (.some e) ρ h = (ev P cl e ρ h).bind fun x h => match truthy h x with
    | some b => .ok b h
    | none => .stuck := Eq.trans rfl rfl
theorem q_evo_none {P : Pg} {cl : Calls} {u1 h} : evo P cl .none u1 h = .ok none h := Eq.trans rfl rfl
theorem q_evo_some {P : Pg} {cl : Calls} {e ρ h} : evo P cl (.some e) ρ h = (ev P cl e ρ h).bind fun x h => match x with
    | .int i => .ok (some i) h
    | _ => .stuck := Eq.trans rfl rfl
theorem q_evi_ex {P : Pg} {cl : Calls} {e ρ h} : evi P cl (.ex e) ρ h = (ev P cl e ρ h).bind fun x h => match src x h with
    | some s => .ok s h
    | none => .stuck := Eq.trans rfl rfl
theorem q_evi_range1 {P : Pg} {cl : Calls} {e ρ h} : evi P cl (.range1 e) ρ h = (ev P cl e ρ h).bind fun x h => match x with
    | .int j => if -(2 ^ 62) ≤ j ∧ j < 2 ^ 62 then .ok ([], (List.range j.toNat).map fun (k : Nat) => PV.int (k : Int)) h else .stuck
    | _ => .stuck := Eq.trans rfl rfl
theorem q_evi_range2 {P : Pg} {cl : Calls} {a b ρ h} : evi P cl (.range2 a b) ρ h = (ev P cl a ρ h).bind fun x h => (ev P cl b ρ h).bind fun y h => match x, y with
    | .int i, .int j => if -(2 ^ 62) ≤ i ∧ i < 2 ^ 62 ∧ -(2 ^ 62) ≤ j ∧ j < 2 ^ 62 then .ok ([], (List.range (j - i).toNat).map fun (k : Nat) => PV.int (i + (k : Int))) h else .stuck
    | _, _ => .stuck := Eq.trans rfl rfl
theorem q_evi_range3 {P : Pg} {cl : Calls} {a b c ρ h} : evi P cl (.range3 a b c) ρ h = (ev P cl a ρ h).bind fun x h => (ev P cl b ρ h).bind fun y h => (ev P cl c ρ h).bind fun z h => match x, y, z with
    | .int i, .int j, .int k => if k ≠ 0 ∧ k.natAbs < 1073741824 ∧ Builtin.Range.small i j k = true then .ok ([], (List.range (Builtin.Range.rangeSize i j k).toNat).map fun (t : Nat) => PV.int (i + (t : Int) * k)) h else .stuck
    | _, _, _ => .stuck := Eq.trans rfl rfl
theorem q_evi_zip2 {P : Pg} {cl : Calls} {a b ρ h} : evi P cl (.zip2 a b) ρ h = (ev P cl a ρ h).bind fun x h => (ev P cl b ρ h).bind fun y h => match src x h, src y h with
    | some s, some t => if isStr x = false ∧ isStr y = false then .ok (s.1 ++ t.1, (s.2.zip t.2).map fun p => .tup [p.1, p.2]) h else .stuck
    | _, _ => .stuck := Eq.trans rfl rfl
theorem q_evi_zip3 {P : Pg} {cl : Calls} {a b c ρ h} : evi P cl (.zip3 a b c) ρ h = (ev P cl a ρ h).bind fun x h => (ev P cl b ρ h).bind fun y h => (ev P cl c ρ h).bind fun z h => match src x h, src y h, src z h with
    | some s, some t, some u => .ok (s.1 ++ t.1 ++ u.1, (s.2.zip (t.2.zip u.2)).map fun p => .tup [p.1, p.2.1, p.2.2]) h
    | _, _, _ => .stuck := Eq.trans rfl rfl
theorem q_evi_enum {P : Pg} {cl : Calls} {a ρ h} : evi P cl (.enum a) ρ h = (ev P cl a ρ h).bind fun x h => match src x h with
    | some s => if isStr x = false then .ok (s.1, s.2.zipIdx.map fun p => .tup [.int p.2, p.1]) h else .stuck
    | none => .stuck := Eq.trans rfl rfl
theorem q_evi_rev {P : Pg} {cl : Calls} {a ρ h} : evi P cl (.rev a) ρ h = (ev P cl a ρ h).bind fun x h => match src x h with
    | some s => .ok (s.1, s.2.reverse) h
    | none => .stuck := Eq.trans rfl rfl
theorem q_run1_ex {P : Pg} {cl : Calls} {e ρ h} : run1 P cl (.ex e) ρ h = (ev P cl e ρ h).out ρ fun _ h => .nx ρ h := Eq.trans rfl rfl
theorem q_run1_set {P : Pg} {cl : Calls} {g e ρ h} : run1 P cl (.set g e) ρ h = (ev P cl e ρ h).out ρ fun x h => match bindG g x ρ h with
    | some ρ' => .nx ρ' h
    | none => .stuck := Eq.trans rfl rfl
theorem q_run1_put {P : Pg} {cl : Calls} {o i e ρ h} : run1 P cl (.put o i e) ρ h = (ev P cl e ρ h).out ρ fun x h => (ev P cl o ρ h).out ρ fun a h => (ev P cl i ρ h).out ρ fun k h => match putop a k x h with
    | some h => .nx ρ h
    | none => .stuck := Eq.trans rfl rfl
theorem q_run1_aug {P : Pg} {cl : Calls} {i op e ρ h} : run1 P cl (.aug i op e) ρ h = match ρ[i]? with
    | some (some x) => (ev P cl e ρ h).out ρ fun y h => (augop op x y h).out ρ fun z h => .nx (ρ.set i (some z)) h
    | _ => .stuck := Eq.trans rfl rfl
theorem q_run1_augs {P : Pg} {cl : Calls} {o i op e ρ h} : run1 P cl (.augs o i op e) ρ h = (ev P cl o ρ h).out ρ fun a h => (ev P cl i ρ h).out ρ fun k h => (augix a k h).out ρ fun x h => (ev P cl e ρ h).out ρ fun y h => (augop op x y h).out ρ fun z h => match putop a k z h with
    | some h => .nx ρ h
    | none => .stuck := Eq.trans rfl rfl
theorem q_run1_ite {P : Pg} {cl : Calls} {c a b ρ h} : run1 P cl (.ite c a b) ρ h = (tst P cl c ρ h).out ρ fun t h => if t = true then runs P cl a ρ h else runs P cl b ρ h := Eq.trans rfl rfl
theorem q_run1_whl {P : Pg} {cl : Calls} {c b ρ h} : run1 P cl (.whl c b) ρ h = whlE (tst P cl c) (runs P cl b) ρ h := Eq.trans rfl rfl
theorem q_run1_for {P : Pg} {cl : Calls} {g it b ρ h} : run1 P cl (.for g it b) ρ h = (evi P cl it ρ h).out ρ fun s h => forL (fun x ρ h => match bindG g x ρ h with
    | some ρ' => runs P cl b ρ' h
    | none => .stuck) s.1 s.2 ρ h := Eq.trans rfl rfl
theorem q_run1_ret {P : Pg} {cl : Calls} {e ρ h} : run1 P cl (.ret e) ρ h = (ev P cl e ρ h).out ρ fun x h => .rt x h := Eq.trans rfl rfl
theorem q_run1_retN {P : Pg} {cl : Calls} {u1 h} : run1 P cl .retN u1 h = .rt .non h := Eq.trans rfl rfl
theorem q_run1_rais {P : Pg} {cl : Calls} {c e w3 ρ h} : run1 P cl (.rais c e w3) ρ h = (ev P cl e ρ h).out ρ fun x h => .exn c x ρ h := Eq.trans rfl rfl
theorem q_run1_try {P : Pg} {cl : Calls} {b hs ρ h} : run1 P cl (.try b hs) ρ h = match runs P cl b ρ h with
    | .exn c v ρ h => if P.exc.contains c = true then runH P cl hs c v ρ h else .stuck
    | o => o := Eq.trans rfl rfl
theorem q_run1_brk {P : Pg} {cl : Calls} {ρ h} : run1 P cl .brk ρ h = .bk ρ h := Eq.trans rfl rfl
theorem q_run1_cnt {P : Pg} {cl : Calls} {ρ h} : run1 P cl .cnt ρ h = .ct ρ h := Eq.trans rfl rfl
theorem q_run1_pas {P : Pg} {cl : Calls} {ρ h} : run1 P cl .pas ρ h = .nx ρ h := Eq.trans rfl rfl
theorem q_runs_nil {P : Pg} {cl : Calls} {ρ h} : runs P cl .nil ρ h = .nx ρ h := Eq.trans rfl rfl
theorem q_runs_cons {P : Pg} {cl : Calls} {s ss ρ h} : runs P cl (.cons s ss) ρ h = (run1 P cl s ρ h).seq (runs P cl ss) := Eq.trans rfl rfl
theorem q_runH_nil {P : Pg} {cl : Calls} {c v ρ h} : runH P cl .nil c v ρ h = .exn c v ρ h := Eq.trans rfl rfl
theorem q_runH_cons {P : Pg} {cl : Calls} {t n b hs c v ρ h} : runH P cl (.cons t n b hs) c v ρ h = if subT P.exc c t = true then match n with
      | none => (runs P cl b ρ h).nox
      | some i => if i < ρ.length then (runs P cl b (ρ.set i (some (.exn c v))) h).gone i else .stuck
    else runH P cl hs c v ρ h := Eq.trans rfl rfl
end Mx

end

section
set_option Elab.async false
set_option Elab.async false
set_option linter.all false
set_option maxRecDepth 100000
set_option maxHeartbeats 4000000
/-! Lemmas for plain proofs: calls by name, heaps, ends of defs, loops, tables. -/
namespace Mx
open PySem PySem.Spec PyProof.Rows L2
class HasC (P : Pg) (x : Str) (v : outParam PV) : Prop where
  eq : P.con x = some v
class HasE (P : Pg) (xs : outParam (List Str)) : Prop where
  eq : P.exc = xs
class Has (P : Pg) (f : Str) (d : outParam Fn) : Prop where
  eq : P.fns f = some d
theorem call_ge {P : Pg} {f : Str} {d : Fn} [H : Has P f d] {n : Nat} (hn : 1 ≤ n) {xs : List PV} {h : MH} (ha : xs.length = d.ps.length) : call P n f xs [] [] h = body P (call P (n - 1)) d xs h := by
  obtain ⟨k, rfl⟩ : ∃ k, n = k + 1 := ⟨n - 1, by omega⟩
  exact call_at H.eq (args_pos ha)
/-- a call by names -/
theorem kw_ge {P : Pg} {f : Str} {d : Fn} [H : Has P f d] {n : Nat} {xs ys as : List PV} {ks : List Str} {h : MH} (ha : argsOf d.ps xs ks ys = some as) (hl : as.length = d.ps.length) : call P n f xs ks ys h = call P n f as [] [] h := by
  cases n with
  | zero => rfl
  | succ n => exact call_kw H.eq ha hl
/-! ### values without things that change -/
class Dt (v : PV) : Prop where
  b : ∀ n, below n v
class Dts (vs : List PV) : Prop where
  b : ∀ n, belows n vs
instance : Dt .non := ⟨fun _ => trivial⟩
instance (b : Bool) : Dt (.bl b) := ⟨fun _ => trivial⟩
instance (i : Int) : Dt (.int i) := ⟨fun _ => trivial⟩
instance (x : Str) : Dt (.str x) := ⟨fun _ => trivial⟩
instance (f : Str) : Dt (.fn f) := ⟨fun _ => trivial⟩
instance {xs : List PV} [h : Dts xs] : Dt (.tup xs) := ⟨fun n => (h.b n : belows n xs)⟩
instance {xs : List PV} [h : Dts xs] : Dt (.lst xs) := ⟨fun n => (h.b n : belows n xs)⟩
instance {c : Str} {x : PV} [h : Dt x] : Dt (.exn c x) := ⟨fun n => (h.b n : below n x)⟩
instance : Dts [] := ⟨fun _ => trivial⟩
instance {x : PV} {xs : List PV} [h : Dt x] [t : Dts xs] : Dts (x :: xs) := ⟨fun n => ⟨h.b n, t.b n⟩⟩
theorem dts_all {xs : List PV} (h : ∀ x ∈ xs, Dt x) : Dts xs := ⟨fun n => belows_mem fun x hx => (h x hx).b n⟩
instance {α : Type} {f : α → PV} {l : List α} [h : ∀ a, Dt (f a)] : Dts (l.map f) := dts_all fun x hx => by
  obtain ⟨a, _, rfl⟩ := List.mem_map.mp hx
  exact h a
instance {xs ys : List PV} [a : Dts xs] [b : Dts ys] : Dts (xs ++ ys) := dts_all fun x hx => ⟨fun n => by
  rcases List.mem_append.mp hx with h | h
  · exact belows_of (a.b n) x h
  · exact belows_of (b.b n) x h⟩
theorem Dt.nref {v : PV} [h : Dt v] : ∀ k, v ≠ .ref k := fun k e => by
  subst e
  exact Nat.not_lt_zero _ (h.b 0)
/-! ### ends -/
theorem leave_dt {h h' : MH} {v : PV} [D : Dt v] (hl : h.length ≤ h'.length) (ht : tidy h h') : leave h v h' = (v, h'.take h.length) := by
  unfold leave
  rw [thaw_of D.nref, if_pos ⟨D.b _, ht, hl⟩]
theorem leave_app {h e : MH} {v : PV} [D : Dt v] : leave h v (h ++ e) = (v, h) := by
  have : (h ++ e).take h.length = h := by simp
  exact leave_drop (by simp) this D.nref (D.b _)
theorem end_rt {h : MH} {v : PV} [Dt v] : (Out.rt v h).res false h = .ok v h := res_rt (leave_self Dt.nref)
theorem end_rt_app {h e : MH} {v : PV} [Dt v] : (Out.rt v (h ++ e)).res false h = .ok v h := by
  show Res.ok (leave h v (h ++ e)).1 (leave h v (h ++ e)).2 = _
  rw [leave_app]
theorem end_nx {h : MH} {ρ : Env'} : (Out.nx ρ h).res false h = .ok .non h := res_nx (leave_non h)
theorem end_nx_app {h e : MH} {ρ : Env'} : (Out.nx ρ (h ++ e)).res false h = .ok .non h := by
  show Res.ok (leave h .non (h ++ e)).1 (leave h .non (h ++ e)).2 = _
  rw [leave_app]
theorem end_exn {h : MH} {ρ : Env'} {c : Str} {v : PV} [Dt v] : (Out.exn c v ρ h).res false h = .exn c v h := res_exn (leave_self Dt.nref)
theorem end_exn_app {h e : MH} {ρ : Env'} {c : Str} {v : PV} [Dt v] : (Out.exn c v ρ (h ++ e)).res false h = .exn c v h := by
  show Res.exn c (leave h v (h ++ e)).1 (leave h v (h ++ e)).2 = _
  rw [leave_app]
/-- a new list that is told is frozen -/
theorem end_lst_app {h e : MH} {xs : List PV} {k : Nat} [D : Dts xs] (hk : h.length ≤ k) (hx : (h ++ e)[k]? = some (.lst xs)) : (Out.rt (.ref k) (h ++ e)).res false h = .ok (.lst xs) h := by
  have et : thaw h.length (h ++ e) (.ref k) = .lst xs := by
    show (if k < h.length then PV.ref k else match (h ++ e)[k]? with
      | some (.lst xs) => .lst xs
      | some (.dic ps) => .dic (ps.map (·.1)) (ps.map (·.2))
      | some (.fdic ps) => .dic (ps.map (·.1)) (ps.map (·.2))
      | _ => .ref k) = _
    rw [if_neg (by omega), hx]
  have hd : tidy h (h ++ e) := fun n o hn q => .inl (by rwa [List.getElem?_append_left hn] at q)
  show Res.ok (leave h (.ref k) (h ++ e)).1 (leave h (.ref k) (h ++ e)).2 = _
  unfold leave
  rw [et, if_pos ⟨(D.b _ : belows _ xs), hd, by simp⟩]
  simp
theorem end_dic_app {h e : MH} {ps : List (Key × PV)} {k : Nat} [D : Dts (ps.map (·.2))] (hk : h.length ≤ k) (hx : (h ++ e)[k]? = some (.dic ps)) : (Out.rt (.ref k) (h ++ e)).res false h = .ok (.dic (ps.map (·.1)) (ps.map (·.2))) h := by
  have et : thaw h.length (h ++ e) (.ref k) = .dic (ps.map (·.1)) (ps.map (·.2)) := by
    show (if k < h.length then PV.ref k else match (h ++ e)[k]? with
      | some (.lst xs) => .lst xs
      | some (.dic ps) => .dic (ps.map (·.1)) (ps.map (·.2))
      | some (.fdic ps) => .dic (ps.map (·.1)) (ps.map (·.2))
      | _ => .ref k) = _
    rw [if_neg (by omega), hx]
  have hd : tidy h (h ++ e) := fun n o hn q => .inl (by rwa [List.getElem?_append_left hn] at q)
  show Res.ok (leave h (.ref k) (h ++ e)).1 (leave h (.ref k) (h ++ e)).2 = _
  unfold leave
  rw [et, if_pos ⟨(D.b _ : belows _ (ps.map (·.2))), hd, by simp⟩]
  simp
/-! ### worlds that differ at one place -/
/-- h' is h but for what stands at n, which is of the kind I -/
structure Chg (I : MO → Prop) (n : Nat) (h h' : MH) : Prop where
  len : h'.length = h.length
  same : ∀ m, m ≠ n → h'[m]? = h[m]?
  at_ : ∃ o, h'[n]? = some o ∧ I o
section
variable {I : MO → Prop} {n : Nat} {h h1 h2 : MH}
theorem Chg.refl {o : MO} (e : h[n]? = some o) (i : I o) : Chg I n h h := ⟨rfl, fun _ _ => rfl, o, e, i⟩
theorem Chg.trans (a : Chg I n h h1) (b : Chg I n h1 h2) : Chg I n h h2 := ⟨b.len.trans a.len, fun m hm => (b.same m hm).trans (a.same m hm), b.at_⟩
theorem Chg.lt (a : Chg I n h h1) : n < h.length := by
  obtain ⟨o, e, _⟩ := a.at_
  rw [← a.len]
  exact (List.getElem?_eq_some_iff.mp e).1
theorem Chg.set {o : MO} (hn : n < h.length) (i : I o) : Chg I n h (h.set n o) := ⟨by simp, fun m hm => List.getElem?_set_ne (Ne.symm hm), o, List.getElem?_set_self hn, i⟩
/-- new things behind -/
theorem Chg.split {e : MH} (a : Chg I n (h ++ e) h1) (hn : n < h.length) : ∃ g, h1 = g ++ e ∧ Chg I n h g := by
  refine ⟨h1.take h.length, ?_, ?_⟩
  · apply List.ext_getElem?
    intro m
    by_cases hm : m < h.length
    · rw [List.getElem?_append_left (by rw [List.length_take, a.len]; simp; omega), List.getElem?_take_of_lt hm]
    · rw [List.getElem?_append_right (by rw [List.length_take, a.len]; simp; omega), a.same m (by omega), List.getElem?_append_right (by omega)]
      congr 1
      rw [List.length_take, a.len]
      simp
  · refine ⟨by rw [List.length_take, a.len]; simp, fun m hm => ?_, ?_⟩
    · by_cases hm2 : m < h.length
      · rw [List.getElem?_take_of_lt hm2, a.same m hm, List.getElem?_append_left hm2]
      · rw [List.getElem?_eq_none (by rw [List.length_take]; omega), List.getElem?_eq_none (by omega)]
    · obtain ⟨o, e1, i⟩ := a.at_
      exact ⟨o, by rw [List.getElem?_take_of_lt hn]; exact e1, i⟩
theorem Chg.app {e : MH} (a : Chg I n h h1) : Chg I n (h ++ e) (h1 ++ e) := by
  refine ⟨by simp [a.len], fun m hm => ?_, ?_⟩
  · by_cases hm2 : m < h.length
    · rw [List.getElem?_append_left hm2, List.getElem?_append_left (by rw [a.len]; exact hm2), a.same m hm]
    · have hl := a.len
      rw [List.getElem?_append_right (by omega), List.getElem?_append_right (by omega), hl]
  · obtain ⟨o, e1, i⟩ := a.at_
    exact ⟨o, by rw [List.getElem?_append_left (List.getElem?_eq_some_iff.mp e1).1]; exact e1, i⟩
theorem Chg.tidy (hI : ∀ o, I o → ∀ k, belowO k o) {e : MH} (a : Chg I n h h1) : Mx.tidy h (h1 ++ e) := fun m o hm q => by
  rw [List.getElem?_append_left (by rw [a.len]; exact hm)] at q
  by_cases hmn : m = n
  · subst hmn
    obtain ⟨o', e1, i⟩ := a.at_
    rw [e1] at q; cases q
    exact .inr (hI _ i _)
  · rw [a.same m hmn] at q
    exact .inl q
theorem Chg.end_rt (hI : ∀ o, I o → ∀ k, belowO k o) {e : MH} {v : PV} [D : Dt v] (a : Chg I n h h1) : (Out.rt v (h1 ++ e)).res false h = .ok v h1 := by
  show Res.ok (leave h v (h1 ++ e)).1 (leave h v (h1 ++ e)).2 = _
  rw [leave_dt (by simp [a.len]) (a.tidy hI)]
  simp [← a.len]
theorem Chg.end_rt0 {v : PV} [D : Dt v] (a : Chg I n h h1) : (Out.rt v h1).res false h = .ok v h1 := res_rt (leave_len a.len Dt.nref)
theorem Chg.end_lst (hI : ∀ o, I o → ∀ k, belowO k o) {e : MH} {xs : List PV} {k : Nat} [D : Dts xs] (a : Chg I n h h1) (hk : h.length ≤ k) (hx : (h1 ++ e)[k]? = some (.lst xs)) : (Out.rt (.ref k) (h1 ++ e)).res false h = .ok (.lst xs) h1 := by
  have et : thaw h.length (h1 ++ e) (.ref k) = .lst xs := by
    show (if k < h.length then PV.ref k else match (h1 ++ e)[k]? with
      | some (.lst xs) => .lst xs
      | some (.dic ps) => .dic (ps.map (·.1)) (ps.map (·.2))
      | some (.fdic ps) => .dic (ps.map (·.1)) (ps.map (·.2))
      | _ => .ref k) = _
    rw [if_neg (by omega), hx]
  show Res.ok (leave h (.ref k) (h1 ++ e)).1 (leave h (.ref k) (h1 ++ e)).2 = _
  unfold leave
  rw [et, if_pos ⟨(D.b _ : belows _ xs), a.tidy hI, by simp [a.len]⟩]
  simp [← a.len]
end
/-! ### heaps -/
@[simp] theorem get_app_len {h : MH} {o : MO} {e : MH} : (h ++ o :: e)[h.length]? = some o := by simp
@[simp] theorem set_app_len {h : MH} {o o' : MO} : (h ++ [o]).set h.length o' = h ++ [o'] := by
  rw [List.set_append_right _ _ (Nat.le_refl _)]; simp
/-! ### loops -/
section
variable {α : Type} {body : PV → Env' → MH → Out} {l : List (Nat × List PV)} {g : α → PV}
/-- a loop by what holds of what is left -/
theorem for_rel (I : List α → Env' → MH → Prop) (hc : ∀ xs ρ h, I xs ρ h → chk l h) (hs : ∀ x xs ρ h, I (x :: xs) ρ h → ∃ ρ' h', (body (g x) ρ h = .nx ρ' h' ∨ body (g x) ρ h = .ct ρ' h') ∧ I xs ρ' h') :
    ∀ (xs : List α) (ρ : Env') (h : MH), I xs ρ h → ∃ ρ' h', forL body l (xs.map g) ρ h = .nx ρ' h' ∧ I [] ρ' h'
  | [], ρ, h, i => ⟨ρ, h, by rw [List.map_nil, forL_nil (hc _ _ _ i)], i⟩
  | x :: xs, ρ, h, i => by
    obtain ⟨ρ1, h1, e, i1⟩ := hs x xs ρ h i
    obtain ⟨ρ2, h2, e2, i2⟩ := for_rel I hc hs xs ρ1 h1 i1
    refine ⟨ρ2, h2, ?_, i2⟩
    rw [List.map_cons, forL_cons (hc _ _ _ i)]
    rcases e with e | e
    · rw [e, Out.turn_nx, e2]
    · rw [e, Out.turn_ct, e2]
/-- a loop that goes on by a step of its state -/
theorem for_fold {σ : Type} {E : σ → Env'} {H : σ → MH} {st : σ → α → σ} (J : List α → σ → Prop) (hc : ∀ s, chk l (H s)) (hs : ∀ x xs s, J (x :: xs) s → body (g x) (E s) (H s) = .nx (E (st s x)) (H (st s x)) ∧ J xs (st s x)) :
    ∀ (xs : List α) (s : σ), J xs s → forL body l (xs.map g) (E s) (H s) = .nx (E (xs.foldl st s)) (H (xs.foldl st s))
  | [], s, _ => by rw [List.map_nil, forL_nil (hc _)]; rfl
  | x :: xs, s, j => by
    obtain ⟨e, j1⟩ := hs x xs s j
    rw [List.map_cons, forL_cons (hc _), e, Out.turn_nx, for_fold J hc hs xs _ j1]
    rfl
/-- nothing is stored -/
theorem for_same {ρ : Env'} {h : MH} (hc : chk l h) : ∀ {xs : List PV}, (∀ x ∈ xs, body x ρ h = .nx ρ h) → forL body l xs ρ h = .nx ρ h
  | [], _ => forL_nil hc
  | x :: xs, e => by
    rw [forL_cons hc, e x List.mem_cons_self, Out.turn_nx, for_same hc fun y hy => e y (List.mem_cons_of_mem _ hy)]
theorem forL_app {xs ys : List PV} {ρ ρ' : Env'} {h h' : MH} (hc' : chk l h') : forL body l xs ρ h = .nx ρ' h' → (∀ x ∈ xs, ∀ ρ h ρ1 h1, body x ρ h ≠ .bk ρ1 h1) → forL body l (xs ++ ys) ρ h = forL body l ys ρ' h' := by
  induction xs generalizing ρ h with
  | nil =>
    intro e _
    unfold forL at e
    split at e
    · cases e; rfl
    · cases e
  | cons x xs ih =>
    intro e hb
    rw [List.cons_append]
    unfold forL at e
    split at e
    · rename_i hc
      rw [forL_cons hc]
      cases e1 : body x ρ h with
      | nx ρ1 h1 => rw [e1, Out.turn_nx] at e; rw [Out.turn_nx]; exact ih e fun y hy => hb y (List.mem_cons_of_mem _ hy)
      | ct ρ1 h1 => rw [e1, Out.turn_ct] at e; rw [Out.turn_ct]; exact ih e fun y hy => hb y (List.mem_cons_of_mem _ hy)
      | bk ρ1 h1 => exact absurd e1 (hb x List.mem_cons_self _ _ _ _)
      | rt v h1 => rw [e1] at e; cases e
      | exn c v ρ1 h1 => rw [e1] at e; cases e
      | stuck => rw [e1] at e; cases e
    · cases e
end
/-! ### comprehensions -/
section
variable {α : Type} {P : Pg} {cl : Calls} {elt : Ae} {gt : Ag} {it : Ai} {ifs : Ao} {own : List (Str × Nat)} {ρ : Env'} {h h' : MH} {l : List (Nat × List PV)} {g : α → PV}
/-- one turn of a comprehension -/
noncomputable abbrev turnC (P : Pg) (cl : Calls) (elt : Ae) (gt : Ag) (ifs : Ao) (own : List (Str × Nat)) (ρ : Env') (x : PV) (h : MH) : Res (Option PV) := match bindG gt x (wipeP ρ (own.map (·.2))) h with
  | some ρ' => (evIfs P cl ifs ρ' h).bind fun b h => if b = true then (ev P cl elt ρ' h).bind fun y h => .ok (some y) h else .ok none h
  | none => .stuck
theorem comp_run {r : Bool} {xs : List PV} : ev P cl (.comp r elt gt it ifs own) ρ h = (evi P cl it ρ h).bind fun s h => (compL (fun x h => (turnC P cl elt gt ifs own ρ x h).nox) s.1 s.2 [] h).bind fun xs h => if xs.length ≤ sizeLine then mkLst r xs h else .stuck := rfl
theorem compL_fm {body : PV → MH → Res (Option PV)} {h : MH} (hc : chk l h) {f : α → Option PV} : ∀ {xs : List α} {acc : List PV}, (∀ x ∈ xs, body (g x) h = .ok (f x) h) → compL body l (xs.map g) acc h = .ok (acc ++ xs.filterMap f) h
  | [], acc, _ => by rw [List.map_nil, compL_nil hc]; simp
  | x :: xs, acc, hb => by
    rw [List.map_cons, compL_cons hc (hb x List.mem_cons_self)]
    rw [compL_fm hc fun y hy => hb y (List.mem_cons_of_mem _ hy)]
    cases e : f x with
    | none => simp [addO, e]
    | some y => simp [addO, e]
/-- a comprehension whose turns change nothing -/
theorem comp_fm {xs : List α} {f : α → Option PV} (hi : evi P cl it ρ h = .ok (l, xs.map g) h') (hc : chk l h') (hl : xs.length ≤ sizeLine) (hb : ∀ x ∈ xs, turnC P cl elt gt ifs own ρ (g x) h' = .ok (f x) h') (r : Bool) :
    ev P cl (.comp r elt gt it ifs own) ρ h = mkLst r (xs.filterMap f) h' := by
  rw [comp_run (xs := []), hi, Res.bind_ok, compL_fm hc (f := f) fun x hx => by rw [hb x hx]; rfl]
  rw [Res.bind_ok, List.nil_append, if_pos (Nat.le_trans (List.length_filterMap_le f xs) hl)]
theorem comp_mp {xs : List α} {f : α → PV} (hi : evi P cl it ρ h = .ok (l, xs.map g) h') (hc : chk l h') (hl : xs.length ≤ sizeLine) (hb : ∀ x ∈ xs, turnC P cl elt gt ifs own ρ (g x) h' = .ok (some (f x)) h') (r : Bool) :
    ev P cl (.comp r elt gt it ifs own) ρ h = mkLst r (xs.map f) h' := by
  rw [comp_fm hi hc hl (f := fun x => some (f x)) hb r]
  congr 1
  induction xs with
  | nil => rfl
  | cons x xs ih => simp
theorem comp_fl {xs : List α} {p : α → Bool} {f : α → PV} (hi : evi P cl it ρ h = .ok (l, xs.map g) h') (hc : chk l h') (hl : xs.length ≤ sizeLine) (hb : ∀ x ∈ xs, turnC P cl elt gt ifs own ρ (g x) h' = .ok (if p x = true then some (f x) else none) h') (r : Bool) :
    ev P cl (.comp r elt gt it ifs own) ρ h = mkLst r ((xs.filter p).map f) h' := by
  rw [comp_fm hi hc hl (f := fun x => if p x = true then some (f x) else none) hb r]
  congr 1
  clear hi hl hb
  induction xs with
  | nil => rfl
  | cons x xs ih =>
    rw [List.filterMap_cons, List.filter_cons]
    cases p x with
    | true => simp [ih]
    | false => simp [ih]
theorem compL_rel {body : PV → MH → Res (Option PV)} (I : List α → List PV → MH → Prop) (hc : ∀ xs acc h, I xs acc h → chk l h) (hs : ∀ x xs acc h, I (x :: xs) acc h → ∃ o h', body (g x) h = .ok o h' ∧ I xs (addO acc o) h') :
    ∀ (xs : List α) (acc : List PV) (h : MH), I xs acc h → ∃ ys h', compL body l (xs.map g) acc h = .ok ys h' ∧ I [] ys h'
  | [], acc, h, i => ⟨acc, h, by rw [List.map_nil, compL_nil (hc _ _ _ i)], i⟩
  | x :: xs, acc, h, i => by
    obtain ⟨o, h1, e, i1⟩ := hs x xs acc h i
    obtain ⟨ys, h2, e2, i2⟩ := compL_rel I hc hs xs _ h1 i1
    exact ⟨ys, h2, by rw [List.map_cons, compL_cons (hc _ _ _ i) e, e2], i2⟩
/-- a comprehension by what holds of what is left and what was made -/
theorem comp_rel {xs : List α} (I : List α → List PV → MH → Prop) (hi : evi P cl it ρ h = .ok (l, xs.map g) h') (h0 : I xs [] h') (hc : ∀ xs acc h, I xs acc h → chk l h) (hz : ∀ ys h, I [] ys h → ys.length ≤ sizeLine)
    (hs : ∀ x xs acc h, I (x :: xs) acc h → ∃ o h1, turnC P cl elt gt ifs own ρ (g x) h = .ok o h1 ∧ I xs (addO acc o) h1) (r : Bool) : ∃ ys h2, ev P cl (.comp r elt gt it ifs own) ρ h = mkLst r ys h2 ∧ I [] ys h2 := by
  obtain ⟨ys, h2, e, i⟩ := compL_rel (body := fun x h => (turnC P cl elt gt ifs own ρ x h).nox) (g := g) I hc (fun x xs acc h i => by
    obtain ⟨o, h1, e, i1⟩ := hs x xs acc h i
    exact ⟨o, h1, by rw [e]; rfl, i1⟩) xs [] h' h0
  refine ⟨ys, h2, ?_, i⟩
  rw [comp_run (xs := []), hi, Res.bind_ok, e, Res.bind_ok, if_pos (hz _ _ i)]
end
/-! ### tables by texts -/
section
variable {α : Type}
def sget (t : List (Str × α)) (k : Str) : Option α := (t.find? fun p => decide (p.1 = k)).map (·.2)
def sput (t : List (Str × α)) (k : Str) (v : α) : List (Str × α) := if (t.any fun p => decide (p.1 = k)) = true then t.map (fun p => if p.1 = k then (p.1, v) else p) else t ++ [(k, v)]
/-- a table as it stands in the heap -/
def tb (g : α → PV) (t : List (Str × α)) : List (Key × PV) := t.map fun p => (.inr p.1, g p.2)
theorem inr_inj {a b : Str} : ((Sum.inr a : Key) = Sum.inr b) ↔ a = b := ⟨fun h => Sum.inr.inj h, fun h => by rw [h]⟩
variable {g : α → PV} {t : List (Str × α)} {k : Str}
theorem kget_tb : kget (tb g t) (.inr k) = (sget t k).map g := by
  unfold kget sget tb
  induction t with
  | nil => rfl
  | cons p t ih =>
    rw [List.map_cons, List.find?_cons, List.find?_cons]
    by_cases h : p.1 = k
    · simp [h]
    · have h' : decide ((Sum.inr p.1 : Key) = Sum.inr k) = false := decide_eq_false fun q => h (Sum.inr.inj q)
      rw [h', decide_eq_false h]
      exact ih
theorem kput_tb {v : α} : kput (tb g t) (.inr k) (g v) = tb g (sput t k v) := by
  unfold kput sput tb
  have e : (List.map (fun p => ((Sum.inr p.1 : Key), g p.2)) t).any (fun p => decide (p.1 = Sum.inr k)) = t.any fun p => decide (p.1 = k) := by
    rw [List.any_map]
    congr 1
    funext p
    simp [inr_inj]
  rw [e]
  split
  · rw [List.map_map, List.map_map]
    congr 1
    funext p
    by_cases h : p.1 = k
    · simp [h, inr_inj]
    · simp [h, inr_inj]
  · simp
theorem kdrop_tb : kdrop (tb g t) (.inr k) = tb g (t.filter fun p => decide (p.1 ≠ k)) := by
  unfold kdrop tb
  rw [List.filter_map]
  congr 1
  congr 1
  funext p
  simp [inr_inj]
theorem tb_len : (tb g t).length = t.length := by unfold tb; simp
theorem tb_fst : (tb g t).map (·.1) = t.map fun p => (.inr p.1 : Key) := by unfold tb; simp
theorem tb_snd : (tb g t).map (·.2) = t.map fun p => g p.2 := by unfold tb; simp
instance [∀ a, Dt (g a)] : Dts ((tb g t).map (·.2)) := by rw [tb_snd]; infer_instance
theorem tb_zip : ((tb g t).map (·.1)).zip ((tb g t).map (·.2)) = tb g t := by
  unfold tb
  induction t with
  | nil => rfl
  | cons p t ih => simp at ih ⊢; exact ih
theorem strs_map : ∀ {l : List Str}, strsOf (l.map PV.str) = some l
  | [] => rfl
  | x :: l => by rw [List.map_cons, strsOf, strs_map]; rfl
theorem tb_strs : strsOf ((tb g t).map fun p => kP p.1) = some (t.map (·.1)) := by
  have : (tb g t).map (fun p => kP p.1) = (t.map (·.1)).map PV.str := by unfold tb; simp [kP]
  rw [this, strs_map]
theorem sput_len_le {v : α} : (sput t k v).length ≤ t.length + 1 := by
  unfold sput; split <;> simp
theorem sput_keys {v : α} : (sput t k v).map (·.1) = if k ∈ t.map (·.1) then t.map (·.1) else t.map (·.1) ++ [k] := by
  unfold sput
  by_cases h : (t.any fun p => decide (p.1 = k)) = true
  · rw [if_pos h]
    have : k ∈ t.map (·.1) := by
      rw [List.any_eq_true] at h
      obtain ⟨p, hp, e⟩ := h
      exact List.mem_map.mpr ⟨p, hp, by simpa using e⟩
    rw [if_pos this, List.map_map]
    congr 1
    funext p
    by_cases e : p.1 = k <;> simp [e]
  · rw [if_neg h]
    have : k ∉ t.map (·.1) := fun q => by
      obtain ⟨p, hp, e⟩ := List.mem_map.mp q
      exact h (List.any_eq_true.mpr ⟨p, hp, by simpa using e⟩)
    rw [if_neg this]
    simp
theorem sput_nodup {v : α} (h : (t.map (·.1)).Nodup) : ((sput t k v).map (·.1)).Nodup := by
  rw [sput_keys]
  split
  · exact h
  · rename_i hk
    rw [List.nodup_append]
    exact ⟨h, by simp, fun a ha b hb e => hk (by rw [List.mem_singleton] at hb; rw [← hb, ← e]; exact ha)⟩
theorem sget_put {v : α} {k' : Str} : sget (sput t k v) k' = if k' = k then some v else sget t k' := by
  unfold sget sput
  by_cases h : (t.any fun p => decide (p.1 = k)) = true
  · rw [if_pos h]
    induction t with
    | nil => cases h
    | cons p t ih =>
      rw [List.map_cons, List.find?_cons, List.find?_cons]
      by_cases hp : p.1 = k
      · rw [if_pos hp]
        by_cases hk : k' = k
        · simp [hp, hk]
        · have : ¬ p.1 = k' := fun e => hk (e.symm.trans hp)
          rw [decide_eq_false this, if_neg hk]
          dsimp only
          clear ih h
          induction t with
          | nil => rfl
          | cons q t ih =>
            rw [List.map_cons, List.find?_cons, List.find?_cons]
            by_cases hq : q.1 = k
            · rw [if_pos hq]
              have : ¬ q.1 = k' := fun e => hk (e.symm.trans hq)
              rw [decide_eq_false this]
              exact ih
            · rw [if_neg hq]
              by_cases hq2 : q.1 = k'
              · simp [hq2]
              · rw [decide_eq_false hq2]; exact ih
      · rw [if_neg hp]
        have h2 : (t.any fun p => decide (p.1 = k)) = true := by
          rw [List.any_cons, decide_eq_false hp] at h; exact h
        by_cases hp2 : p.1 = k'
        · have hk : ¬ k' = k := fun e => hp (hp2.trans e)
          simp [hp2, hk]
        · rw [decide_eq_false hp2]
          exact ih h2
  · rw [if_neg h]
    rw [List.find?_append]
    have hn : ∀ p ∈ t, ¬ p.1 = k := fun p hp e => h (List.any_eq_true.mpr ⟨p, hp, by simpa using e⟩)
    by_cases hk : k' = k
    · subst hk
      have : t.find? (fun p => decide (p.1 = k')) = none := List.find?_eq_none.mpr fun p hp => by simpa using hn p hp
      rw [this]
      simp
    · rw [if_neg hk]
      have hkk : ¬ k = k' := fun e => hk e.symm
      cases t.find? (fun p => decide (p.1 = k')) with
      | none => simp [hkk]
      | some _ => rfl
end
/-! ### statements with loops -/
section
variable {P : Pg} {cl : Calls} {s : As} {gt : Ag} {it : Ai} {b : Ass} {c : Ae} {ρ ρ2 : Env'} {h h1 h2 : MH} {l : List (Nat × List PV)} {ys : List PV}
noncomputable abbrev turnF (P : Pg) (cl : Calls) (gt : Ag) (b : Ass) (x : PV) (ρ : Env') (h : MH) : Out := match bindG gt x ρ h with
  | some ρ' => runs P cl b ρ' h
  | none => .stuck
theorem for_run (hs : s = .for gt it b) (hi : evi P cl it ρ h = .ok (l, ys) h1) : run1 P cl s ρ h = forL (turnF P cl gt b) l ys ρ h1 := by
  subst hs
  rw [q_run1_for, hi, Res.out_ok]
  all_goals rfl
theorem whl_run {n : Nat} {o : Out} (hs : s = .whl c b) (e : whlN (tst P cl c) (runs P cl b) n ρ h = o) (ho : o ≠ .stuck) : run1 P cl s ρ h = o := by
  subst hs
  rw [q_run1_whl]
  exact whl_eq e ho
end
end Mx

end

section
set_option Elab.async false
set_option Elab.async false
set_option linter.all false
set_option maxRecDepth 100000
set_option maxHeartbeats 4000000
/-! Data without things that change: how they are read, shown, compared. -/
namespace Mx
open PySem PySem.Spec PyProof.Rows L2
/-- data of at most n signs and items, at most k deep, whose leaves are short -/
structure SmD (B n k : Nat) (d : PyData) : Prop where
  hd : d.hasDict = false
  sh : d.showable = true
  lv : d.leavesShort B = true
  cl : d.canLay0 = true
  dp : d.depth ≤ k
  bu : d.bulk ≤ n
structure SmDs (B n k : Nat) (ds : List PyData) : Prop where
  hd : PyData.hasDictAll ds = false
  sh : PyData.showableAll ds = true
  lv : PyData.leavesShortAll B ds = true
  cl : PyData.canLayAll0 ds = true
  dp : PyData.depthAll ds ≤ k
  bu : PyData.bulkAll ds ≤ n
def Sm (B n k : Nat) (v : PV) : Prop := ∃ d, (∀ rd, toD rd v = some d) ∧ SmD B n k d
def Sms (B n k : Nat) (xs : List PV) : Prop := ∃ ds, (∀ rd, toDs rd xs = some ds) ∧ SmDs B n k ds
section
variable {B n m k : Nat}
theorem Sm.non : Sm B n k .non := ⟨.none, fun _ => rfl, ⟨rfl, rfl, rfl, rfl, Nat.zero_le _, Nat.zero_le _⟩⟩
theorem Sm.bl (b : Bool) : Sm B n k (.bl b) := ⟨.bool b, fun _ => rfl, ⟨rfl, rfl, rfl, rfl, Nat.zero_le _, Nat.zero_le _⟩⟩
theorem Sm.int {i : Int} (h : i.natAbs.log2 + 2 ≤ B) (hB : B ≤ 1900) : Sm B n k (.int i) := by
  refine ⟨.int i, fun _ => rfl, ⟨rfl, ?_, ?_, rfl, Nat.zero_le _, Nat.zero_le _⟩⟩
  · simp only [PyData.showable, decide_eq_true_eq]; omega
  · have := int_text_length_le (a := i) (k := i.natAbs.log2 + 1) (by omega) (by omega)
    have e : (PyData.shown (.int i)).length = (toString i).length := PySem.ofString_length _
    unfold PyData.leavesShort
    rw [decide_eq_true_eq, e]
    omega
theorem Sm.str {x : Str} (h : PyData.strOk x = true) (hn : x.length ≤ n) : Sm B n k (.str x) := by
  refine ⟨.str x, fun _ => rfl, ⟨rfl, rfl, ?_, h, Nat.zero_le _, hn⟩⟩
  simp only [PyData.leavesShort, List.all_eq_true, decide_eq_true_eq]
  intro c hc
  unfold PyData.strOk at h
  rw [Array.all_eq_true'] at h
  have := h c (Array.mem_def.mpr hc)
  simp at this
  omega
theorem Sms.nil : Sms B n k [] := ⟨[], fun _ => rfl, ⟨rfl, rfl, rfl, rfl, Nat.zero_le _, Nat.zero_le _⟩⟩
theorem SmD.mono {d : PyData} {n' k' : Nat} (h : SmD B n k d) (h1 : n ≤ n') (h2 : k ≤ k') : SmD B n' k' d := ⟨h.hd, h.sh, h.lv, h.cl, Nat.le_trans h.dp h2, Nat.le_trans h.bu h1⟩
theorem Sm.mono {v : PV} {n' k' : Nat} (h : Sm B n k v) (h1 : n ≤ n') (h2 : k ≤ k') : Sm B n' k' v := let ⟨d, e, q⟩ := h; ⟨d, e, q.mono h1 h2⟩
theorem SmD.cons {d : PyData} {ds : List PyData} {t : Nat} (h : SmD B n k d) (h' : SmDs B m k ds) (ht : n + 1 + m ≤ t) : SmDs B t k (d :: ds) := by
  refine ⟨?_, ?_, ?_, ?_, ?_, ?_⟩
  · simp only [PyData.hasDictAll, h.hd, h'.hd, Bool.or_self]
  · simp only [PyData.showableAll, h.sh, h'.sh, Bool.and_self]
  · simp only [PyData.leavesShortAll, h.lv, h'.lv, Bool.and_self]
  · simp only [PyData.canLayAll0, h.cl, h'.cl, Bool.and_self]
  · have h1 := h.dp
    have h2 := h'.dp
    simp only [PyData.depthAll]
    omega
  · have h1 := h.bu
    have h2 := h'.bu
    simp only [PyData.bulkAll]
    omega
theorem Sms.cons {v : PV} {xs : List PV} {t : Nat} (h : Sm B n k v) (h' : Sms B m k xs) (ht : n + 1 + m ≤ t) : Sms B t k (v :: xs) := by
  obtain ⟨d, e, q⟩ := h
  obtain ⟨ds, e', q'⟩ := h'
  exact ⟨d :: ds, fun rd => by unfold toDs; rw [e, e'], q.cons q' ht⟩
theorem Sms.mono {xs : List PV} {n' k' : Nat} (h : Sms B n k xs) (h1 : n ≤ n') (h2 : k ≤ k') : Sms B n' k' xs := by
  obtain ⟨ds, e, q⟩ := h
  exact ⟨ds, e, ⟨q.hd, q.sh, q.lv, q.cl, Nat.le_trans q.dp h2, Nat.le_trans q.bu h1⟩⟩
theorem Sms.all : ∀ {xs : List PV} {t : Nat}, (∀ x ∈ xs, Sm B n k x) → xs.length * (n + 1) ≤ t → Sms B t k xs
  | [], _, _, _ => Sms.nil
  | x :: xs, t, h, ht => by
    rw [List.length_cons, Nat.succ_mul] at ht
    exact Sms.cons (h x List.mem_cons_self) (Sms.all (t := xs.length * (n + 1)) (fun y hy => h y (List.mem_cons_of_mem _ hy)) (Nat.le_refl _)) (by omega)
theorem Sms.tup {xs : List PV} (h : Sms B n k xs) : Sm B n (k + 1) (.tup xs) := by
  obtain ⟨ds, e, q⟩ := h
  refine ⟨.tuple ds, fun rd => by unfold toD; rw [e]; rfl, ⟨q.hd, q.sh, q.lv, q.cl, ?_, q.bu⟩⟩
  have := q.dp
  simp only [PyData.depth]
  omega
theorem Sms.lst {xs : List PV} (h : Sms B n k xs) : Sm B n (k + 1) (.lst xs) := by
  obtain ⟨ds, e, q⟩ := h
  refine ⟨.list ds, fun rd => by unfold toD; rw [e]; rfl, ⟨q.hd, q.sh, q.lv, q.cl, ?_, q.bu⟩⟩
  have := q.dp
  simp only [PyData.depth]
  omega
theorem SmD.fits {d : PyData} (h : SmD B n k d) (hB : 8 ≤ B) (hz : (B + 2) * n + B ≤ 16777216) : d.shown.length ≤ sizeLine := by
  have h1 := PyData.shown_le_bulk B hB d h.lv
  have h2 : (B + 2) * d.bulk ≤ (B + 2) * n := Nat.mul_le_mul_left _ h.bu
  rw [sizeLine_eq]
  omega
/-- repr -/
theorem rep_ok {h : MH} {v : PV} {d : PyData} (e : toD (rd1 h) v = some d) (hr : rowD d = true) (q : SmD B n k d) (hk : k ≤ 50) (hB : 8 ≤ B) (hz : (B + 2) * n + B ≤ 16777216) : repop v h = .ok (.str d.shown) h := by
  unfold repop
  rw [e]
  exact if_pos ⟨hr, q.hd, q.sh, Nat.le_trans q.dp hk, q.fits hB hz⟩
theorem rep_lst {xs : List PV} (s : Sms B n k xs) (hk : k < 50) (hB : 8 ≤ B) (hz : (B + 2) * n + B ≤ 16777216) : ∃ t, ∀ h, repop (.lst xs) h = .ok (.str t) h := by
  obtain ⟨ds, e, q⟩ := s
  have q2 : SmD B n (k + 1) (.list ds) := by
    refine ⟨q.hd, q.sh, q.lv, q.cl, ?_, q.bu⟩
    have := q.dp
    simp only [PyData.depth]
    omega
  exact ⟨_, fun h => rep_ok (d := .list ds) (by unfold toD; rw [e]; rfl) rfl q2 hk hB hz⟩
theorem rep_tup {xs : List PV} (s : Sms B n k xs) (hk : k < 50) (hB : 8 ≤ B) (hz : (B + 2) * n + B ≤ 16777216) : ∃ t, ∀ h, repop (.tup xs) h = .ok (.str t) h := by
  obtain ⟨ds, e, q⟩ := s
  have q2 : SmD B n (k + 1) (.tuple ds) := by
    refine ⟨q.hd, q.sh, q.lv, q.cl, ?_, q.bu⟩
    have := q.dp
    simp only [PyData.depth]
    omega
  exact ⟨_, fun h => rep_ok (d := .tuple ds) (by unfold toD; rw [e]; rfl) rfl q2 hk hB hz⟩
/-- repr of a list that changes -/
theorem rep_ref {xs : List PV} {m : Nat} (s : Sms B n k xs) (hk : k < 50) (hB : 8 ≤ B) (hz : (B + 2) * n + B ≤ 16777216) : ∃ t, ∀ h : MH, h[m]? = some (.lst xs) → repop (.ref m) h = .ok (.str t) h := by
  obtain ⟨ds, e, q⟩ := s
  have q2 : SmD B n (k + 1) (.list ds) := by
    refine ⟨q.hd, q.sh, q.lv, q.cl, ?_, q.bu⟩
    have := q.dp
    simp only [PyData.depth]
    omega
  exact ⟨_, fun h hm => rep_ok (d := .list ds) (by unfold toD rd1; rw [hm]; simp only [e]; rfl) rfl q2 hk hB hz⟩
/-! ### == of data -/
theorem Sm.shaped {v : PV} (s : Sm B n k v) (hk : k ≤ 64) : ∃ d, (∀ rd, toD rd v = some d) ∧ SeqAt.shaped d = true := by
  obtain ⟨d, e, q⟩ := s
  exact ⟨d, e, by unfold SeqAt.shaped; rw [q.cl, decide_eq_true (Nat.le_trans q.dp hk)]; rfl⟩
/-- a list against the empty one -/
theorem peq_nil_lst {xs : List PV} (s : Sms B n k xs) (hk : k < 64) (h : MH) : peq h (.lst xs) (.lst []) = some xs.isEmpty := by
  obtain ⟨d, e, q⟩ := (Sms.lst s).shaped (Nat.succ_le_of_lt hk)
  have e1 := e (rd1 h)
  have e2 : toD (rd1 h) (.lst []) = some (.list []) := rfl
  unfold peq
  rw [if_neg (by simp [scalP])]
  unfold peqD
  rw [e1, e2]
  have q2 : SeqAt.shaped (.list []) = true := by decide
  simp only [q, q2, Bool.and_self, if_true]
  obtain ⟨ds, es, _⟩ := s
  have e3 := es (rd1 h)
  have e4 : d = .list ds := by
    have : toD (rd1 h) (.lst xs) = some (.list ds) := by unfold toD; rw [e3]; rfl
    rw [this] at e1
    exact (Option.some.inj e1).symm
  subst e4
  cases xs with
  | nil =>
    cases (show some [] = some ds from e3)
    rfl
  | cons x xs =>
    cases ds with
    | nil =>
      unfold toDs at e3
      split at e3
      · cases e3
      · cases e3
    | cons _ _ => rfl
end
end Mx

end

section
set_option Elab.async false
set_option linter.all false
set_option maxRecDepth 100000
namespace Mx.FB
open PySem PySem.Spec PyProof.Rows L2 Mx
def f_is_integer : Fn := ⟨1, ["value"], (.cons (.ret (.and (.cons (.isi (.v 0) ["int"]) (.cons (.not (.isi (.v 0) ["bool"])) .nil)))) .nil), false⟩
def f_is_pair : Fn := ⟨1, ["value"], (.cons (.ret (.and (.cons (.isi (.v 0) ["tuple"]) (.cons (.cmp .eq (.blt .len false (.cons (.v 0) .nil)) (.int 2)) .nil)))) .nil), false⟩
def c_is_ascending_1 : Ae := .comp false (.cmp .lt (.ix (.v 0) (.v 1)) (.ix (.v 0) (.bin .add false (.v 1) (.int 1)))) (.nm 1) (.range1 (.bin .sub false (.blt .len false (.cons (.v 0) .nil)) (.int 1))) .none [("k", 1)]
def f_is_ascending : Fn := ⟨2, ["row"], (.cons (.ret (.blt .all false (.cons c_is_ascending_1 .nil))) .nil), false⟩
def f_lowest : Fn := ⟨3, ["top", "bottom"], (.cons (.set (.nm 2) (.blt .gcd false (.cons (.v 0) (.cons (.v 1) .nil)))) (.cons (.ite (.cmp .lt (.v 1) (.int 0)) (.cons (.set (.nm 2) (.neg (.v 2))) .nil) .nil) (.cons (.ret (.tup (.cons (.bin .fdiv false (.v 0) (.v 2)) (.cons (.bin .fdiv false (.v 1) (.v 2)) .nil)))) .nil))), false⟩
def f_sum_of_two : Fn := ⟨2, ["a", "b"], (.cons (.ite (.and (.cons (.cmp .eq (.ix (.v 0) (.int 1)) (.int 1)) (.cons (.cmp .eq (.ix (.v 1) (.int 1)) (.int 1)) .nil))) (.cons (.ret (.tup (.cons (.bin .add false (.ix (.v 0) (.int 0)) (.ix (.v 1) (.int 0))) (.cons (.int 1) .nil)))) .nil) .nil) (.cons (.ret (.call "lowest" (.cons (.bin .add false (.bin .mul false (.ix (.v 0) (.int 0)) (.ix (.v 1) (.int 1))) (.bin .mul false (.ix (.v 1) (.int 0)) (.ix (.v 0) (.int 1)))) (.cons (.bin .mul false (.ix (.v 0) (.int 1)) (.ix (.v 1) (.int 1))) .nil)) [] .nil)) .nil)), false⟩
def f_is_less : Fn := ⟨2, ["a", "b"], (.cons (.ret (.cmp .lt (.bin .mul false (.ix (.v 0) (.int 0)) (.ix (.v 1) (.int 1))) (.bin .mul false (.ix (.v 1) (.int 0)) (.ix (.v 0) (.int 1))))) .nil), false⟩
def f_is_number : Fn := ⟨1, ["told"], (.cons (.ite (.or (.cons (.not (.call "is_pair" (.cons (.v 0) .nil) [] .nil)) (.cons (.not (.call "is_integer" (.cons (.ix (.v 0) (.int 0)) .nil) [] .nil)) (.cons (.not (.call "is_integer" (.cons (.ix (.v 0) (.int 1)) .nil) [] .nil)) (.cons (.cmp .lt (.ix (.v 0) (.int 1)) (.int 1)) .nil))))) (.cons (.ret (.bl false)) .nil) .nil) (.cons (.ret (.cmp .eq (.call "lowest" (.cons (.ix (.v 0) (.int 0)) (.cons (.ix (.v 0) (.int 1)) .nil)) [] .nil) (.v 0))) .nil)), false⟩
def c_is_name_1 : Ae := .comp false (.cmp .inn (.v 1) (.con "LETTERS")) (.nm 1) (.ex (.v 0)) .none [("sign", 1)]
def f_is_name : Fn := ⟨2, ["told"], (.cons (.ret (.and (.cons (.isi (.v 0) ["str"]) (.cons (.chain .le .le (.int 1) (.blt .len false (.cons (.v 0) .nil)) (.con "MOST_NAME")) (.cons (.blt .all false (.cons c_is_name_1 .nil)) .nil))))) .nil), false⟩
def c_is_row_1 : Ae := .comp false (.calv 1 (.cons (.v 2) .nil)) (.nm 2) (.ex (.sl false (.v 0) (.some (.int 1)) .none)) .none [("one", 2)]
def f_is_row : Fn := ⟨3, ["told", "is_one"], (.cons (.ite (.or (.cons (.not (.isi (.v 0) ["tuple"])) (.cons (.cmp .ne (.blt .len false (.cons (.v 0) .nil)) (.int 5)) (.cons (.not (.call "is_name" (.cons (.ix (.v 0) (.int 0)) .nil) [] .nil)) .nil)))) (.cons (.ret (.bl false)) .nil) .nil) (.cons (.ret (.blt .all false (.cons c_is_row_1 .nil))) .nil)), false⟩
def f_as_number : Fn := ⟨1, ["one"], (.cons (.ret (.ifx (.call "is_integer" (.cons (.v 0) .nil) [] .nil) (.tup (.cons (.v 0) (.cons (.int 1) .nil))) (.v 0))) .nil), false⟩
def c_numbered_1 : Ae := .comp false (.call "is_row" (.cons (.v 1) (.cons (.fnv "is_number") .nil)) [] .nil) (.nm 1) (.ex (.v 0)) .none [("row", 1)]
def c_numbered_2 : Ae := .comp false (.call "is_row" (.cons (.v 1) (.cons (.fnv "is_integer") .nil)) [] .nil) (.nm 1) (.ex (.v 0)) .none [("row", 1)]
def c_numbered_3 : Ae := .comp false (.call "as_number" (.cons (.v 3) .nil) [] .nil) (.nm 3) (.ex (.sl false (.v 1) (.some (.int 1)) .none)) .none [("one", 3)]
def c_numbered_4 : Ae := .comp false (.bin .add false (.tup (.cons (.ix (.v 1) (.int 0)) .nil)) (.blt .tuple false (.cons c_numbered_3 .nil))) (.nm 1) (.ex (.v 0)) .none [("row", 1)]
def c_numbered_5 : Ae := .comp false (.ix (.v 1) (.int 0)) (.nm 1) (.ex (.v 2)) .none [("row", 1)]
def c_numbered_6 : Ae := .comp2 false (.cmp .lt (.ix (.v 4) (.int 0)) (.int 0)) (.nm 1) (.ex (.v 2)) (.nm 4) (.ex (.sl false (.v 1) (.some (.int 3)) .none)) [("row", 1), ("size", 4)] [4]
def f_numbered : Fn := ⟨5, ["told"], (.cons (.ite (.not (.isi (.v 0) ["tuple"])) (.cons (.rais "InvalidPicture" (.v 0) false) .nil) .nil) (.cons (.ite (.and (.cons (.not (.blt .all false (.cons c_numbered_1 .nil))) (.cons (.not (.blt .all false (.cons c_numbered_2 .nil))) .nil))) (.cons (.rais "InvalidPicture" (.v 0) false) .nil) .nil) (.cons (.set (.nm 2) c_numbered_4) (.cons (.ite (.or (.cons (.not (.call "is_ascending" (.cons c_numbered_5 .nil) [] .nil)) (.cons (.blt .any false (.cons c_numbered_6 .nil)) .nil))) (.cons (.rais "InvalidPicture" (.v 0) false) .nil) .nil) (.cons (.ret (.v 2)) .nil))))), false⟩
def f_along : Fn := ⟨4, ["row", "axis"], (.cons (.set (.tp (.cons (.nm 2) (.cons (.nm 3) .nil))) (.sls false (.sl false (.v 0) (.some (.int 1)) .none) (.some (.met .tindex false (.con "AXES") (.cons (.v 1) .nil))) 2)) (.cons (.ret (.tup (.cons (.v 2) (.cons (.call "sum_of_two" (.cons (.v 2) (.cons (.v 3) .nil)) [] .nil) .nil)))) .nil)), false⟩
def f_covers : Fn := ⟨5, ["row", "axis", "unit"], (.cons (.set (.tp (.cons (.nm 3) (.cons (.nm 4) .nil))) (.call "along" (.cons (.v 0) (.cons (.v 1) .nil)) [] .nil)) (.cons (.ret (.and (.cons (.not (.call "is_less" (.cons (.tup (.cons (.v 2) (.cons (.int 1) .nil))) (.cons (.v 3) .nil)) [] .nil)) (.cons (.call "is_less" (.cons (.tup (.cons (.v 2) (.cons (.int 1) .nil))) (.cons (.v 4) .nil)) [] .nil) .nil)))) .nil)), false⟩
def l_top_name_1 : As := .for (.nm 4) (.ex (.v 0)) (.cons (.ite (.and (.cons (.call "covers" (.cons (.v 4) (.cons (.str "across") (.cons (.v 1) .nil))) [] .nil) (.cons (.call "covers" (.cons (.v 4) (.cons (.str "down") (.cons (.v 2) .nil))) [] .nil) .nil))) (.cons (.set (.nm 3) (.ix (.v 4) (.int 0))) .nil) .nil) .nil)
def f_top_name : Fn := ⟨5, ["rows", "x", "y"], (.cons (.set (.nm 3) (.str "")) (.cons l_top_name_1 (.cons (.ret (.v 3)) .nil))), false⟩
def l_drawn_1 : As := .for (.nm 4) (.ex (.tup (.cons (.v 1) (.cons (.v 2) .nil)))) (.cons (.ite (.or (.cons (.not (.call "is_integer" (.cons (.v 4) .nil) [] .nil)) (.cons (.cmp .lt (.v 4) (.int 0)) .nil))) (.cons (.rais "InvalidNumber" (.v 4) false) .nil) .nil) .nil)
def c_drawn_2 : Ae := .comp false (.call "top_name" (.cons (.v 3) (.cons (.v 7) (.cons (.v 6) .nil))) [] .nil) (.nm 7) (.range1 (.v 1)) .none [("x", 7)]
def c_drawn_3 : Ae := .comp false c_drawn_2 (.nm 6) (.range1 (.v 2)) .none [("y", 6)]
def c_drawn_4 : Ae := .comp false (.ifx (.cmp .ne (.v 9) (.str "")) (.ix (.v 9) (.int 0)) (.str ".")) (.nm 9) (.ex (.v 8)) .none [("name", 9)]
def c_drawn_5 : Ae := .comp true (.met .join false (.str "") (.cons c_drawn_4 .nil)) (.nm 8) (.ex (.v 5)) .none [("line", 8)]
def f_drawn : Fn := ⟨10, ["screen", "wide", "high"], (.cons (.set (.nm 3) (.call "numbered" (.cons (.v 0) .nil) [] .nil)) (.cons l_drawn_1 (.cons (.set (.nm 5) c_drawn_3) (.cons (.ret c_drawn_5) .nil)))), true⟩
def f_hit : Fn := ⟨3, ["screen", "x", "y"], (.cons (.ret (.call "top_name" (.cons (.call "numbered" (.cons (.v 0) .nil) [] .nil) (.cons (.v 1) (.cons (.v 2) .nil))) [] .nil)) .nil), false⟩
def f_law_well : Fn := ⟨3, ["script", "place"], (.cons (.set (.nm 2) (.ifx (.cmp .lt (.v 1) (.blt .len false (.cons (.v 0) .nil))) (.ix (.v 0) (.v 1)) (.bin .add false (.bin .mul false (.v 1) (.int 7919)) (.bin .mul false (.blt .len false (.cons (.v 0) .nil)) (.int 104729))))) (.cons (.ret (.lst true (.cons (.blt .max false (.cons (.int 0) (.cons (.bin .sub false (.blt .abs false (.cons (.v 2) .nil)) (.bin .pow false (.int 10) (.int 18))) .nil))) (.cons (.bin .mod false (.blt .int false (.cons (.bin .add false (.bin .add false (.bin .mul false (.v 2) (.int 48611)) (.bin .mul false (.v 1) (.int 6700417))) (.int 31337)) .nil)) (.bin .add false (.bin .pow false (.int 10) (.int 24)) (.int 7))) (.cons (.int 0) .nil))))) .nil)), true⟩
def f_law_dip : Fn := ⟨4, ["well", "many"], (.cons (.ite (.cmp .gt (.ix (.v 0) (.int 0)) (.int 0)) (.cons (.set (.nm 2) (.bin .mod false (.blt .int false (.cons (.ix (.v 0) (.int 0)) .nil)) (.v 1))) (.cons (.put (.v 0) (.int 0) (.bin .fdiv false (.ix (.v 0) (.int 0)) (.v 1))) (.cons (.ret (.v 2)) .nil))) .nil) (.cons (.put (.v 0) (.int 2) (.bin .add false (.ix (.v 0) (.int 2)) (.int 1))) (.cons (.set (.nm 3) (.bin .mod false (.bin .pow false (.blt .int false (.cons (.bin .add false (.ix (.v 0) (.int 1)) (.bin .mul false (.int 1000003) (.ix (.v 0) (.int 2)))) .nil)) (.int 3)) (.bin .add false (.bin .pow false (.int 10) (.int 25)) (.int 13)))) (.cons (.set (.nm 3) (.bin .mod false (.bin .pow false (.blt .int false (.cons (.bin .add false (.v 3) (.bin .mul false (.int 77347) (.ix (.v 0) (.int 2)))) .nil)) (.int 2)) (.bin .add false (.bin .pow false (.int 10) (.int 24)) (.int 7)))) (.cons (.ret (.bin .mod false (.blt .int false (.cons (.bin .fdiv false (.v 3) (.int 4096)) .nil)) (.v 1))) .nil))))), false⟩
def l_law_same_1 : As := .for (.nm 3) (.range1 (.blt .len false (.cons (.v 1) .nil))) (.cons (.ite (.not (.call "_law_same" (.cons (.ix (.v 0) (.v 3)) (.cons (.ix (.v 1) (.v 3)) .nil)) [] .nil)) (.cons (.ret (.bl false)) .nil) .nil) .nil)
def f_law_same : Fn := ⟨4, ["told", "due"], (.cons (.ite (.cmp .isN (.v 1) .non) (.cons (.ret (.cmp .isN (.v 0) .non)) .nil) .nil) (.cons (.ite (.isi (.v 1) ["bool"]) (.cons (.ret (.and (.cons (.isi (.v 0) ["bool"]) (.cons (.cmp .eq (.v 0) (.v 1)) .nil)))) .nil) .nil) (.cons (.ite (.or (.cons (.isi (.v 1) ["tuple"]) (.cons (.isi (.v 1) ["list"]) .nil))) (.cons (.set (.nm 2) (.ifx (.isi (.v 1) ["tuple"]) (.isi (.v 0) ["tuple"]) (.isi (.v 0) ["list"]))) (.cons (.ite (.or (.cons (.not (.v 2)) (.cons (.cmp .ne (.blt .len false (.cons (.v 0) .nil)) (.blt .len false (.cons (.v 1) .nil))) .nil))) (.cons (.ret (.bl false)) .nil) .nil) (.cons l_law_same_1 (.cons (.ret (.bl true)) .nil)))) .nil) (.cons (.ite (.isi (.v 1) ["str"]) (.cons (.ret (.and (.cons (.isi (.v 0) ["str"]) (.cons (.cmp .eq (.v 0) (.v 1)) .nil)))) .nil) .nil) (.cons (.ret (.and (.cons (.isi (.v 0) ["int"]) (.cons (.not (.isi (.v 0) ["bool"])) (.cons (.cmp .eq (.v 0) (.v 1)) .nil))))) .nil))))), false⟩
def l_law_screen_1 : As := .for (.nm 3) (.range1 (.bin .add false (.int 1) (.call "_law_dip" (.cons (.v 0) (.cons (.int 6) .nil)) [] .nil))) (.cons (.set (.nm 4) (.met .pop false (.v 1) (.cons (.call "_law_dip" (.cons (.v 0) (.cons (.blt .len false (.cons (.v 1) .nil)) .nil)) [] .nil) .nil))) (.cons (.set (.nm 5) (.lst false (.cons (.call "_law_dip" (.cons (.v 0) (.cons (.int 9) .nil)) [] .nil) (.cons (.call "_law_dip" (.cons (.v 0) (.cons (.int 4) .nil)) [] .nil) (.cons (.bin .add false (.int 100000) (.call "_law_dip" (.cons (.v 0) (.cons (.int 9) .nil)) [] .nil)) .nil))))) (.cons (.set (.tp (.cons (.nm 6) (.cons (.nm 7) .nil))) (.tup (.cons (.ix (.v 5) (.ix (.lst false (.cons (.int 0) (.cons (.int 0) (.cons (.int 0) (.cons (.int 1) (.cons (.int 2) .nil)))))) (.call "_law_dip" (.cons (.v 0) (.cons (.int 5) .nil)) [] .nil))) (.cons (.ix (.v 5) (.ix (.lst false (.cons (.int 0) (.cons (.int 0) (.cons (.int 0) (.cons (.int 1) (.cons (.int 2) .nil)))))) (.call "_law_dip" (.cons (.v 0) (.cons (.int 5) .nil)) [] .nil))) .nil)))) (.cons (.ex (.met .append false (.v 2) (.cons (.tup (.cons (.v 4) (.cons (.bin .sub false (.call "_law_dip" (.cons (.v 0) (.cons (.int 14) .nil)) [] .nil) (.int 4)) (.cons (.bin .sub false (.call "_law_dip" (.cons (.v 0) (.cons (.int 11) .nil)) [] .nil) (.int 3)) (.cons (.v 6) (.cons (.v 7) .nil)))))) .nil))) .nil))))
def f_law_screen : Fn := ⟨8, ["well"], (.cons (.set (.tp (.cons (.nm 1) (.cons (.nm 2) .nil))) (.tup (.cons (.lst true (.cons (.str "a") (.cons (.str "ab") (.cons (.str "abs") (.cons (.str "b") (.cons (.str "as") (.cons (.str "zz") (.cons (.str "m") (.cons (.str "zab") (.cons (.str "mm") (.cons (.str "qrstuv") .nil))))))))))) (.cons (.lst true .nil) .nil)))) (.cons l_law_screen_1 (.cons (.ret (.blt .tuple false (.cons (.blt .sorted false (.cons (.v 2) .nil)) .nil))) .nil))), false⟩
def l_law_top_1 : As := .for (.tp (.cons (.nm 4) (.cons (.nm 5) (.cons (.nm 6) (.cons (.nm 7) (.cons (.nm 8) .nil)))))) (.ex (.v 0)) (.cons (.ite (.and (.cons (.cmp .le (.v 5) (.v 1)) (.cons (.cmp .lt (.v 1) (.bin .add false (.v 5) (.v 7))) (.cons (.cmp .le (.v 6) (.v 2)) (.cons (.cmp .lt (.v 2) (.bin .add false (.v 6) (.v 8))) .nil))))) (.cons (.set (.nm 3) (.v 4)) .nil) .nil) .nil)
def f_law_top : Fn := ⟨9, ["rows", "x", "y"], (.cons (.set (.nm 3) (.str "")) (.cons l_law_top_1 (.cons (.ret (.v 3)) .nil))), false⟩
def l_law_signs_1 : As := .for (.nm 6) (.range1 (.v 1)) (.cons (.set (.nm 5) (.bin .add false (.v 5) (.ix (.bin .add false (.call "_law_top" (.cons (.v 0) (.cons (.v 6) (.cons (.v 4) .nil))) [] .nil) (.str ".")) (.int 0)))) .nil)
def l_law_signs_2 : As := .for (.nm 4) (.range1 (.v 2)) (.cons (.set (.nm 5) (.str "")) (.cons l_law_signs_1 (.cons (.ex (.met .append false (.v 3) (.cons (.v 5) .nil))) .nil)))
def f_law_signs : Fn := ⟨7, ["rows", "wide", "high"], (.cons (.set (.nm 3) (.lst true .nil)) (.cons l_law_signs_2 (.cons (.ret (.v 3)) .nil))), false⟩
def l_law_right_1 : As := .for (.nm 6) (.range1 (.int 12)) (.cons (.set (.nm 7) (.ix (.v 1) (.call "_law_dip" (.cons (.v 0) (.cons (.blt .len false (.cons (.v 1) .nil)) .nil)) [] .nil))) (.cons (.set (.tp (.cons (.nm 8) (.cons (.nm 9) .nil))) (.tup (.cons (.bin .sub false (.call "_law_dip" (.cons (.v 0) (.cons (.int 20) .nil)) [] .nil) (.int 6)) (.cons (.bin .sub false (.call "_law_dip" (.cons (.v 0) (.cons (.int 16) .nil)) [] .nil) (.int 5)) .nil)))) (.cons (.ite (.cmp .eq (.bin .mod false (.v 6) (.int 3)) (.int 0)) (.cons (.set (.nm 8) (.bin .add false (.ix (.v 7) (.int 1)) (.ix (.lst false (.cons (.neg (.int 1)) (.cons (.int 0) (.cons (.bin .sub false (.ix (.v 7) (.int 3)) (.int 1)) (.cons (.ix (.v 7) (.int 3)) .nil))))) (.call "_law_dip" (.cons (.v 0) (.cons (.int 4) .nil)) [] .nil)))) (.cons (.set (.nm 9) (.bin .add false (.ix (.v 7) (.int 2)) (.ix (.lst false (.cons (.neg (.int 1)) (.cons (.int 0) (.cons (.bin .sub false (.ix (.v 7) (.int 4)) (.int 1)) (.cons (.ix (.v 7) (.int 4)) .nil))))) (.call "_law_dip" (.cons (.v 0) (.cons (.int 4) .nil)) [] .nil)))) .nil)) .nil) (.cons (.ite (.not (.call "_law_same" (.cons (.call "hit" (.cons (.v 1) (.cons (.v 8) (.cons (.v 9) .nil))) [] .nil) (.cons (.call "_law_top" (.cons (.v 1) (.cons (.v 8) (.cons (.v 9) .nil))) [] .nil) .nil)) [] .nil)) (.cons (.ret (.bl false)) .nil) .nil) .nil))))
def f_law_right : Fn := ⟨11, ["well"], (.cons (.set (.nm 1) (.call "_law_screen" (.cons (.v 0) .nil) [] .nil)) (.cons (.set (.tp (.cons (.nm 2) (.cons (.nm 3) .nil))) (.tup (.cons (.call "_law_dip" (.cons (.v 0) (.cons (.int 13) .nil)) [] .nil) (.cons (.call "_law_dip" (.cons (.v 0) (.cons (.int 9) .nil)) [] .nil) .nil)))) (.cons (.set (.nm 4) (.call "_law_signs" (.cons (.v 1) (.cons (.v 2) (.cons (.v 3) .nil))) [] .nil)) (.cons (.set (.nm 5) (.call "drawn" (.cons (.v 1) (.cons (.v 2) (.cons (.v 3) .nil))) [] .nil)) (.cons (.ite (.not (.call "_law_same" (.cons (.v 5) (.cons (.v 4) .nil)) [] .nil)) (.cons (.ret (.bl false)) .nil) .nil) (.cons (.ex (.met .append false (.v 5) (.cons (.str "") .nil))) (.cons (.put (.v 5) (.int 0) (.str "x")) (.cons l_law_right_1 (.cons (.set (.nm 10) (.call "_law_dip" (.cons (.v 0) (.cons (.int 5) .nil)) [] .nil)) (.cons (.ite (.not (.call "_law_same" (.cons (.call "drawn" .nil ["high", "screen", "wide"] (.cons (.v 10) (.cons (.v 1) (.cons (.bin .add false (.v 10) (.int 1)) .nil)))) (.cons (.call "_law_signs" (.cons (.v 1) (.cons (.bin .add false (.v 10) (.int 1)) (.cons (.v 10) .nil))) [] .nil) .nil)) [] .nil)) (.cons (.ret (.bl false)) .nil) .nil) (.cons (.ite (.not (.call "_law_same" (.cons (.call "hit" .nil ["y", "x", "screen"] (.cons (.int 1) (.cons (.int 2) (.cons (.v 1) .nil)))) (.cons (.call "_law_top" (.cons (.v 1) (.cons (.int 2) (.cons (.int 1) .nil))) [] .nil) .nil)) [] .nil)) (.cons (.ret (.bl false)) .nil) .nil) (.cons (.ret (.call "_law_same" (.cons (.call "drawn" (.cons (.v 1) (.cons (.v 2) (.cons (.v 3) .nil))) [] .nil) (.cons (.v 4) .nil)) [] .nil)) .nil)))))))))))), false⟩
def l_law_1_k47 : As := .for (.nm 1) (.range1 (.blt .max false (.cons (.int 1) (.cons (.blt .min false (.cons (.int 6) (.cons (.blt .len false (.cons (.v 0) .nil)) .nil))) .nil)))) (.cons (.ite (.not (.call "_law_right" (.cons (.call "_law_well" (.cons (.v 0) (.cons (.v 1) .nil)) [] .nil) .nil) [] .nil)) (.cons (.ret (.bl false)) .nil) .nil) .nil)
def f_law_k47 : Fn := ⟨2, ["script"], (.cons l_law_1_k47 (.cons (.ret (.bl true)) .nil)), false⟩
def f_opposite : Fn := ⟨1, ["a"], (.cons (.ret (.tup (.cons (.neg (.ix (.v 0) (.int 0))) (.cons (.ix (.v 0) (.int 1)) .nil)))) .nil), false⟩
def f_difference : Fn := ⟨2, ["a", "b"], (.cons (.ret (.call "sum_of_two" (.cons (.v 0) (.cons (.call "opposite" (.cons (.v 1) .nil) [] .nil) .nil)) [] .nil)) .nil), false⟩
def l_check_numbers_1 : As := .for (.nm 1) (.ex (.v 0)) (.cons (.ite (.not (.call "is_number" (.cons (.v 1) .nil) [] .nil)) (.cons (.rais "InvalidNumber" (.v 1) false) .nil) .nil) .nil)
def f_check_numbers : Fn := ⟨2, ["row"], (.cons l_check_numbers_1 .nil), false⟩
def f_rounded : Fn := ⟨1, ["a"], (.cons (.ex (.call "check_numbers" (.cons (.tup (.cons (.v 0) .nil)) .nil) [] .nil)) (.cons (.ret (.bin .fdiv false (.bin .add false (.bin .mul false (.int 2) (.ix (.v 0) (.int 0))) (.ix (.v 0) (.int 1))) (.bin .mul false (.int 2) (.ix (.v 0) (.int 1))))) .nil)), false⟩
def f_check_axis : Fn := ⟨1, ["axis"], (.cons (.ite (.cmp .nin (.v 0) (.con "AXES")) (.cons (.rais "InvalidAxis" (.v 0) false) .nil) .nil) .nil), false⟩
def c_rows_of_1 : Ae := .dcomp (.ix (.v 3) (.int 0)) (.v 3) (.nm 3) (.ex (.v 0)) .none [("row", 3)]
def l_rows_of_2 : As := .for (.nm 4) (.ex (.v 1)) (.cons (.ite (.cmp .nin (.v 4) (.v 2)) (.cons (.rais "UnknownBox" (.v 4) false) .nil) .nil) .nil)
def c_rows_of_3 : Ae := .comp false (.ix (.v 2) (.v 4)) (.nm 4) (.ex (.v 1)) .none [("name", 4)]
def f_rows_of : Fn := ⟨5, ["rows", "names"], (.cons (.set (.nm 2) c_rows_of_1) (.cons l_rows_of_2 (.cons (.ret c_rows_of_3) .nil))), false⟩
def c_screen_1 : Ae := .comp false (.call "along" (.cons (.v 2) (.cons (.v 6) .nil)) [] .nil) (.nm 6) (.ex (.con "AXES")) .none [("axis", 6)]
def c_screen_2 : Ae := .comp false (.call "rounded" (.cons (.v 7) .nil) [] .nil) (.tp (.cons (.nm 7) (.cons (.nm 8) .nil))) (.ex (.v 3)) .none [("begin", 7), ("end", 8)]
def c_screen_3 : Ae := .comp false (.bin .sub false (.call "rounded" (.cons (.v 8) .nil) [] .nil) (.v 7)) (.tp (.cons (.tp (.cons (.nm 9) (.cons (.nm 8) .nil))) (.cons (.nm 7) .nil))) (.zip2 (.v 3) (.v 4)) .none [("begin", 7), ("own", 9), ("end", 8)]
def l_screen_4 : As := .for (.nm 2) (.ex (.call "numbered" (.cons (.v 0) .nil) [] .nil)) (.cons (.set (.nm 3) c_screen_1) (.cons (.set (.nm 4) c_screen_2) (.cons (.set (.nm 5) c_screen_3) (.cons (.ex (.met .append false (.v 1) (.cons (.tupS (.cons (.ix (.v 2) (.int 0)) (.star (.v 4) (.star (.v 5) .nil)))) .nil))) .nil))))
def f_screen : Fn := ⟨10, ["picture"], (.cons (.set (.nm 1) (.lst true .nil)) (.cons l_screen_4 (.cons (.ret (.blt .tuple false (.cons (.v 1) .nil))) .nil))), false⟩
def f_meets : Fn := ⟨7, ["told", "axis", "one", "other"], (.cons (.set (.nm 4) (.call "numbered" (.cons (.v 0) .nil) [] .nil)) (.cons (.ex (.call "check_axis" (.cons (.v 1) .nil) [] .nil)) (.cons (.set (.tp (.cons (.nm 5) (.cons (.nm 6) .nil))) (.call "rows_of" (.cons (.v 4) (.cons (.tup (.cons (.v 2) (.cons (.v 3) .nil))) .nil)) [] .nil)) (.cons (.ret (.cmp .eq (.ix (.call "along" (.cons (.v 5) (.cons (.v 1) .nil)) [] .nil) (.int 1)) (.ix (.call "along" (.cons (.v 6) (.cons (.v 1) .nil)) [] .nil) (.int 0)))) .nil)))), false⟩
def f_gap : Fn := ⟨8, ["told", "axis", "one", "other"], (.cons (.set (.nm 4) (.call "numbered" (.cons (.v 0) .nil) [] .nil)) (.cons (.ex (.call "check_axis" (.cons (.v 1) .nil) [] .nil)) (.cons (.set (.tp (.cons (.nm 5) (.cons (.nm 6) .nil))) (.call "rows_of" (.cons (.v 4) (.cons (.tup (.cons (.v 2) (.cons (.v 3) .nil))) .nil)) [] .nil)) (.cons (.set (.nm 7) (.call "difference" (.cons (.ix (.call "along" (.cons (.v 6) (.cons (.v 1) .nil)) [] .nil) (.int 0)) (.cons (.ix (.call "along" (.cons (.v 5) (.cons (.v 1) .nil)) [] .nil) (.int 1)) .nil)) [] .nil)) (.cons (.ret (.ifx (.call "is_integer" (.cons (.ix (.ix (.v 0) (.int 0)) (.int 1)) .nil) [] .nil) (.ix (.v 7) (.int 0)) (.v 7))) .nil))))), false⟩
def c_overlaps_1 : Ae := .comp false (.tup (.cons (.call "along" (.cons (.v 3) (.cons (.v 6) .nil)) [] .nil) (.cons (.call "along" (.cons (.v 4) (.cons (.v 6) .nil)) [] .nil) .nil))) (.nm 6) (.ex (.con "AXES")) .none [("axis", 6)]
def c_overlaps_2 : Ae := .comp false (.and (.cons (.call "is_less" (.cons (.ix (.v 7) (.int 0)) (.cons (.ix (.v 8) (.int 1)) .nil)) [] .nil) (.cons (.call "is_less" (.cons (.ix (.v 8) (.int 0)) (.cons (.ix (.v 7) (.int 1)) .nil)) [] .nil) .nil))) (.tp (.cons (.nm 7) (.cons (.nm 8) .nil))) (.ex (.v 5)) .none [("a", 7), ("b", 8)]
def f_overlaps : Fn := ⟨9, ["told", "one", "other"], (.cons (.set (.tp (.cons (.nm 3) (.cons (.nm 4) .nil))) (.call "rows_of" (.cons (.call "numbered" (.cons (.v 0) .nil) [] .nil) (.cons (.tup (.cons (.v 1) (.cons (.v 2) .nil))) .nil)) [] .nil)) (.cons (.set (.nm 5) c_overlaps_1) (.cons (.ret (.blt .all false (.cons c_overlaps_2 .nil))) .nil))), false⟩
def c_within_1 : Ae := .comp false (.tup (.cons (.call "along" (.cons (.v 3) (.cons (.v 6) .nil)) [] .nil) (.cons (.call "along" (.cons (.v 4) (.cons (.v 6) .nil)) [] .nil) .nil))) (.nm 6) (.ex (.con "AXES")) .none [("axis", 6)]
def c_within_2 : Ae := .comp false (.and (.cons (.not (.call "is_less" (.cons (.ix (.v 7) (.int 0)) (.cons (.ix (.v 8) (.int 0)) .nil)) [] .nil)) (.cons (.not (.call "is_less" (.cons (.ix (.v 8) (.int 1)) (.cons (.ix (.v 7) (.int 1)) .nil)) [] .nil)) .nil))) (.tp (.cons (.nm 7) (.cons (.nm 8) .nil))) (.ex (.v 5)) .none [("a", 7), ("b", 8)]
def f_within : Fn := ⟨9, ["told", "one", "other"], (.cons (.set (.tp (.cons (.nm 3) (.cons (.nm 4) .nil))) (.call "rows_of" (.cons (.call "numbered" (.cons (.v 0) .nil) [] .nil) (.cons (.tup (.cons (.v 1) (.cons (.v 2) .nil))) .nil)) [] .nil)) (.cons (.set (.nm 5) c_within_1) (.cons (.ret (.blt .all false (.cons c_within_2 .nil))) .nil))), false⟩
def w_law_low_1 : As := .whl (.cmp .ne (.v 3) (.int 0)) (.cons (.set (.tp (.cons (.nm 2) (.cons (.nm 3) .nil))) (.tup (.cons (.v 3) (.cons (.bin .mod false (.blt .int false (.cons (.v 2) .nil)) (.v 3)) .nil)))) .nil)
def f_law_low : Fn := ⟨5, ["top", "bottom"], (.cons (.set (.tp (.cons (.nm 2) (.cons (.nm 3) .nil))) (.tup (.cons (.blt .abs false (.cons (.v 0) .nil)) (.cons (.blt .abs false (.cons (.v 1) .nil)) .nil)))) (.cons w_law_low_1 (.cons (.set (.nm 4) (.ifx (.cmp .gt (.v 1) (.int 0)) (.int 1) (.neg (.int 1)))) (.cons (.ret (.tup (.cons (.bin .fdiv false (.bin .mul false (.v 4) (.v 0)) (.v 2)) (.cons (.bin .fdiv false (.bin .mul false (.v 4) (.v 1)) (.v 2)) .nil)))) .nil)))), false⟩
def f_law_plus : Fn := ⟨2, ["one", "other"], (.cons (.ret (.call "_law_low" (.cons (.bin .add false (.bin .mul false (.ix (.v 0) (.int 0)) (.ix (.v 1) (.int 1))) (.bin .mul false (.ix (.v 1) (.int 0)) (.ix (.v 0) (.int 1)))) (.cons (.bin .mul false (.ix (.v 0) (.int 1)) (.ix (.v 1) (.int 1))) .nil)) [] .nil)) .nil), false⟩
def f_law_under : Fn := ⟨2, ["one", "other"], (.cons (.ret (.cmp .lt (.bin .mul false (.ix (.v 0) (.int 0)) (.ix (.v 1) (.int 1))) (.bin .mul false (.ix (.v 1) (.int 0)) (.ix (.v 0) (.int 1))))) .nil), false⟩
def l_law_places_1 : As := .for (.nm 3) (.range1 (.bin .add false (.int 2) (.call "_law_dip" (.cons (.v 0) (.cons (.int 4) .nil)) [] .nil))) (.cons (.set (.nm 4) (.lst true (.cons (.tup (.cons (.int 0) (.cons (.int 1) .nil))) (.cons (.tup (.cons (.int 1) (.cons (.int 2) .nil))) (.cons (.tup (.cons (.int 1) (.cons (.int 3) .nil))) (.cons (.tup (.cons (.call "_law_dip" (.cons (.v 0) (.cons (.int 4) .nil)) [] .nil) (.cons (.int 4) .nil))) (.cons (.tup (.cons (.call "_law_dip" (.cons (.v 0) (.cons (.int 7) .nil)) [] .nil) (.cons (.int 7) .nil))) .nil))))))) (.cons (.ex (.met .append false (.v 4) (.cons (.tup (.cons (.bin .add false (.int 499) (.call "_law_dip" (.cons (.v 0) (.cons (.int 3) .nil)) [] .nil)) (.cons (.int 1000) .nil))) .nil))) (.cons (.set (.nm 5) (.ix (.lst false (.cons (.bin .sub false (.call "_law_dip" (.cons (.v 0) (.cons (.int 25) .nil)) [] .nil) (.int 8)) (.cons (.bin .sub false (.call "_law_dip" (.cons (.v 0) (.cons (.int 100) .nil)) [] .nil) (.int 50)) .nil))) (.blt .int false (.cons (.cmp .eq (.call "_law_dip" (.cons (.v 0) (.cons (.int 4) .nil)) [] .nil) (.int 0)) .nil)))) (.cons (.set (.tp (.cons (.nm 7) (.cons (.nm 8) .nil))) (.ix (.v 4) (.call "_law_dip" (.cons (.v 0) (.cons (.int 6) .nil)) [] .nil))) (.cons (.ite (.v 2) (.cons (.set (.tp (.cons (.nm 5) (.cons (.nm 7) (.cons (.nm 8) .nil)))) (.tup (.cons (.bin .sub false (.call "_law_dip" (.cons (.v 0) (.cons (.int 80001) .nil)) [] .nil) (.int 40000)) (.cons (.ix (.ix (.v 4) (.bin .mod false (.v 3) (.int 3))) (.int 0)) (.cons (.ix (.ix (.v 4) (.bin .mod false (.v 3) (.int 3))) (.int 1)) .nil))))) .nil) .nil) (.cons (.set (.nm 6) (.call "_law_plus" (.cons (.tup (.cons (.v 5) (.cons (.int 1) .nil))) (.cons (.call "_law_low" (.cons (.v 7) (.cons (.v 8) .nil)) [] .nil) .nil)) [] .nil)) (.cons (.ite (.and (.cons (.cmp .ne (.v 1) (.lst false .nil)) (.cons (.cmp .eq (.call "_law_dip" (.cons (.v 0) (.cons (.int 3) .nil)) [] .nil) (.int 0)) .nil))) (.cons (.set (.nm 6) (.call "_law_plus" (.cons (.ix (.v 1) (.call "_law_dip" (.cons (.v 0) (.cons (.blt .len false (.cons (.v 1) .nil)) .nil)) [] .nil)) (.cons (.tup (.cons (.bin .sub false (.call "_law_dip" (.cons (.v 0) (.cons (.int 9) .nil)) [] .nil) (.int 4)) (.cons (.int 1) .nil))) .nil)) [] .nil)) .nil) .nil) (.cons (.ex (.met .append false (.v 1) (.cons (.v 6) .nil))) .nil))))))))
def f_law_places : Fn := ⟨9, ["well"], (.cons (.set (.tp (.cons (.nm 1) (.cons (.nm 2) .nil))) (.tup (.cons (.lst true .nil) (.cons (.cmp .eq (.call "_law_dip" (.cons (.v 0) (.cons (.int 4) .nil)) [] .nil) (.int 0)) .nil)))) (.cons l_law_places_1 (.cons (.ret (.v 1)) .nil))), false⟩
def f_law_edges : Fn := ⟨4, ["well", "places"], (.cons (.set (.tp (.cons (.nm 2) (.cons (.nm 3) .nil))) (.tup (.cons (.ix (.v 1) (.call "_law_dip" (.cons (.v 0) (.cons (.blt .len false (.cons (.v 1) .nil)) .nil)) [] .nil)) (.cons (.ix (.v 1) (.call "_law_dip" (.cons (.v 0) (.cons (.blt .len false (.cons (.v 1) .nil)) .nil)) [] .nil)) .nil)))) (.cons (.ret (.ifx (.call "_law_under" (.cons (.v 3) (.cons (.v 2) .nil)) [] .nil) (.tup (.cons (.v 3) (.cons (.v 2) .nil))) (.tup (.cons (.v 2) (.cons (.v 3) .nil))))) .nil)), false⟩
def l_law_drawn_1 : As := .for (.nm 5) (.range1 (.bin .add false (.int 1) (.call "_law_dip" (.cons (.v 0) (.cons (.int 5) .nil)) [] .nil))) (.cons (.set (.nm 6) (.met .pop false (.v 1) (.cons (.call "_law_dip" (.cons (.v 0) (.cons (.blt .len false (.cons (.v 1) .nil)) .nil)) [] .nil) .nil))) (.cons (.ex (.met .append false (.v 2) (.cons (.tup (.cons (.v 6) (.cons (.call "_law_edges" (.cons (.v 0) (.cons (.v 3) .nil)) [] .nil) (.cons (.call "_law_edges" (.cons (.v 0) (.cons (.v 4) .nil)) [] .nil) .nil)))) .nil))) .nil))
def f_law_drawn : Fn := ⟨7, ["well"], (.cons (.set (.tp (.cons (.nm 1) (.cons (.nm 2) .nil))) (.tup (.cons (.lst true (.cons (.str "a") (.cons (.str "ab") (.cons (.str "abs") (.cons (.str "b") (.cons (.str "as") (.cons (.str "zz") (.cons (.str "m") (.cons (.str "qrstuv") .nil))))))))) (.cons (.lst true .nil) .nil)))) (.cons (.set (.tp (.cons (.nm 3) (.cons (.nm 4) .nil))) (.tup (.cons (.call "_law_places" (.cons (.v 0) .nil) [] .nil) (.cons (.call "_law_places" (.cons (.v 0) .nil) [] .nil) .nil)))) (.cons l_law_drawn_1 (.cons (.ret (.blt .sorted false (.cons (.v 2) .nil))) .nil)))), false⟩
def f_law_less : Fn := ⟨2, ["one", "other"], (.cons (.ret (.call "_law_plus" (.cons (.v 0) (.cons (.tup (.cons (.neg (.ix (.v 1) (.int 0))) (.cons (.ix (.v 1) (.int 1)) .nil))) .nil)) [] .nil)) .nil), false⟩
def l_law_shown_1 : As := .for (.tp (.cons (.nm 2) (.cons (.tp (.cons (.nm 3) (.cons (.nm 4) .nil))) (.cons (.tp (.cons (.nm 5) (.cons (.nm 6) .nil))) .nil)))) (.ex (.v 0)) (.cons (.ex (.met .append false (.v 1) (.cons (.tup (.cons (.v 2) (.cons (.v 3) (.cons (.v 5) (.cons (.call "_law_less" (.cons (.v 4) (.cons (.v 3) .nil)) [] .nil) (.cons (.call "_law_less" (.cons (.v 6) (.cons (.v 5) .nil)) [] .nil) .nil)))))) .nil))) .nil)
def f_law_shown : Fn := ⟨7, ["rows"], (.cons (.set (.nm 1) (.lst true .nil)) (.cons l_law_shown_1 (.cons (.ret (.blt .tuple false (.cons (.v 1) .nil))) .nil))), false⟩
def f_law_unit : Fn := ⟨1, ["place"], (.cons (.ret (.tup (.cons (.bin .fdiv false (.bin .add false (.bin .mul false (.int 2) (.ix (.v 0) (.int 0))) (.ix (.v 0) (.int 1))) (.bin .mul false (.int 2) (.ix (.v 0) (.int 1)))) (.cons (.int 1) .nil)))) .nil), false⟩
def c_law_pair_right_1 : Ae := .comp false (.v 7) (.nm 7) (.ex (.v 1)) (.some (.cmp .inn (.ix (.v 7) (.int 0)) (.tup (.cons (.v 2) (.cons (.v 3) .nil))))) [("row", 7)]
def l_law_pair_right_2 : As := .for (.tp (.cons (.nm 8) (.cons (.nm 9) (.cons (.nm 10) .nil)))) (.ex (.v 5)) (.cons (.put (.v 6) (.v 8) (.lst false (.cons (.v 9) (.cons (.v 10) .nil)))) .nil)
def l_law_pair_right_3 : As := .for (.tp (.cons (.nm 13) (.cons (.nm 14) .nil))) (.enum (.lst false (.cons (.str "across") (.cons (.str "down") .nil)))) (.cons (.set (.tp (.cons (.nm 16) (.cons (.nm 17) .nil))) (.ix (.ix (.v 6) (.v 2)) (.v 13))) (.cons (.set (.tp (.cons (.nm 18) (.cons (.nm 19) .nil))) (.ix (.ix (.v 6) (.v 3)) (.v 13))) (.cons (.set (.nm 15) (.call "_law_less" (.cons (.v 18) (.cons (.v 17) .nil)) [] .nil)) (.cons (.ite (.not (.call "_law_same" (.cons (.call "meets" .nil ["other", "one", "axis", "told"] (.cons (.v 3) (.cons (.v 2) (.cons (.v 14) (.cons (.v 0) .nil))))) (.cons (.cmp .eq (.v 15) (.tup (.cons (.int 0) (.cons (.int 1) .nil)))) .nil)) [] .nil)) (.cons (.ret (.bl false)) .nil) .nil) (.cons (.ite (.not (.call "_law_same" (.cons (.call "gap" .nil ["other", "one", "axis", "told"] (.cons (.v 3) (.cons (.v 2) (.cons (.v 14) (.cons (.v 0) .nil))))) (.cons (.ifx (.v 4) (.ix (.v 15) (.int 0)) (.v 15)) .nil)) [] .nil)) (.cons (.ret (.bl false)) .nil) .nil) (.cons (.set (.nm 11) (.or (.cons (.v 11) (.cons (.not (.call "_law_under" (.cons (.v 16) (.cons (.v 19) .nil)) [] .nil)) (.cons (.not (.call "_law_under" (.cons (.v 18) (.cons (.v 17) .nil)) [] .nil)) .nil))))) (.cons (.set (.nm 12) (.and (.cons (.v 12) (.cons (.not (.call "_law_under" (.cons (.v 16) (.cons (.v 18) .nil)) [] .nil)) (.cons (.not (.call "_law_under" (.cons (.v 19) (.cons (.v 17) .nil)) [] .nil)) .nil))))) .nil)))))))
def f_law_pair_right : Fn := ⟨20, ["told", "rows", "one", "other", "whole"], (.cons (.set (.tp (.cons (.nm 5) (.cons (.nm 6) .nil))) (.tup (.cons c_law_pair_right_1 (.cons (.dnew .nil) .nil)))) (.cons l_law_pair_right_2 (.cons (.set (.tp (.cons (.nm 11) (.cons (.nm 12) .nil))) (.tup (.cons (.bl false) (.cons (.bl true) .nil)))) (.cons l_law_pair_right_3 (.cons (.ite (.not (.call "_law_same" (.cons (.call "overlaps" .nil ["one", "other", "told"] (.cons (.v 2) (.cons (.v 3) (.cons (.v 0) .nil)))) (.cons (.not (.v 11)) .nil)) [] .nil)) (.cons (.ret (.bl false)) .nil) .nil) (.cons (.ret (.call "_law_same" (.cons (.call "within" .nil ["other", "told", "one"] (.cons (.v 3) (.cons (.v 0) (.cons (.v 2) .nil)))) (.cons (.v 12) .nil)) [] .nil)) .nil)))))), false⟩
def l_law_kept_1 : As := .for (.nm 4) (.ex (.lst false (.cons (.str "across") (.cons (.str "down") .nil)))) (.cons (.set (.nm 5) (.call "gap" (.cons (.v 0) (.cons (.v 4) (.cons (.v 2) (.cons (.v 3) .nil)))) [] .nil)) (.cons (.ite (.and (.cons (.call "meets" (.cons (.v 0) (.cons (.v 4) (.cons (.v 2) (.cons (.v 3) .nil)))) [] .nil) (.cons (.not (.call "meets" (.cons (.v 1) (.cons (.v 4) (.cons (.v 2) (.cons (.v 3) .nil)))) [] .nil)) .nil))) (.cons (.ret (.bl false)) .nil) .nil) (.cons (.ite (.and (.cons (.cmp .eq (.ix (.v 5) (.int 1)) (.int 1)) (.cons (.cmp .ne (.call "gap" (.cons (.v 1) (.cons (.v 4) (.cons (.v 2) (.cons (.v 3) .nil)))) [] .nil) (.ix (.v 5) (.int 0))) .nil))) (.cons (.ret (.bl false)) .nil) .nil) .nil)))
def f_law_kept : Fn := ⟨6, ["told", "shown", "one", "other"], (.cons l_law_kept_1 (.cons (.ite (.and (.cons (.not (.call "overlaps" (.cons (.v 0) (.cons (.v 2) (.cons (.v 3) .nil))) [] .nil)) (.cons (.call "overlaps" (.cons (.v 1) (.cons (.v 2) (.cons (.v 3) .nil))) [] .nil) .nil))) (.cons (.ret (.bl false)) .nil) .nil) (.cons (.ret (.or (.cons (.call "within" (.cons (.v 1) (.cons (.v 2) (.cons (.v 3) .nil))) [] .nil) (.cons (.not (.call "within" (.cons (.v 0) (.cons (.v 2) (.cons (.v 3) .nil))) [] .nil)) .nil)))) .nil))), false⟩
def l_law_near_1 : As := .for (.tp (.cons (.nm 6) (.cons (.nm 7) .nil))) (.ex (.v 5)) (.cons (.set (.nm 8) (.call "_law_less" (.cons (.v 6) (.cons (.tup (.cons (.v 7) (.cons (.int 1) .nil))) .nil)) [] .nil)) (.cons (.ite (.cmp .gt (.bin .mul false (.int 2) (.blt .abs false (.cons (.ix (.v 8) (.int 0)) .nil))) (.ix (.v 8) (.int 1))) (.cons (.ret (.bl false)) .nil) .nil) .nil))
def l_law_near_2 : As := .for (.nm 4) (.range1 (.int 2)) (.cons (.set (.nm 5) (.lst true (.cons (.tup (.cons (.ix (.v 2) (.bin .add false (.int 1) (.v 4))) (.cons (.ix (.v 3) (.bin .add false (.int 1) (.v 4))) .nil))) .nil))) (.cons (.ex (.met .append false (.v 5) (.cons (.tup (.cons (.call "_law_plus" (.cons (.ix (.v 2) (.bin .add false (.int 1) (.v 4))) (.cons (.ix (.v 2) (.bin .add false (.int 3) (.v 4))) .nil)) [] .nil) (.cons (.bin .add false (.ix (.v 3) (.bin .add false (.int 1) (.v 4))) (.ix (.v 3) (.bin .add false (.int 3) (.v 4)))) .nil))) .nil))) (.cons l_law_near_1 .nil)))
def l_law_near_3 : As := .for (.tp (.cons (.nm 2) (.cons (.nm 3) .nil))) (.zip2 (.v 0) (.v 1)) (.cons l_law_near_2 .nil)
def f_law_near : Fn := ⟨9, ["told", "shown"], (.cons l_law_near_3 (.cons (.ret (.bl true)) .nil)), false⟩
def l_law_right_1_v2 : As := .for (.tp (.cons (.nm 4) (.cons (.tp (.cons (.nm 5) (.cons (.nm 6) .nil))) (.cons (.tp (.cons (.nm 7) (.cons (.nm 8) .nil))) .nil)))) (.ex (.v 1)) (.cons (.ex (.met .append false (.v 3) (.cons (.tup (.cons (.v 4) (.cons (.tup (.cons (.call "_law_unit" (.cons (.v 5) .nil) [] .nil) (.cons (.call "_law_unit" (.cons (.v 6) .nil) [] .nil) .nil))) (.cons (.tup (.cons (.call "_law_unit" (.cons (.v 7) .nil) [] .nil) (.cons (.call "_law_unit" (.cons (.v 8) .nil) [] .nil) .nil))) .nil)))) .nil))) .nil)
def c_law_right_2_v2 : Ae := .comp false (.ix (.v 11) (.int 0)) (.nm 11) (.ex (.sl false (.v 10) (.some (.int 1)) .none)) .none [("number", 11)]
def c_law_right_3_v2 : Ae := .comp false (.bin .add false (.tup (.cons (.ix (.v 10) (.int 0)) .nil)) (.blt .tuple false (.cons c_law_right_2_v2 .nil))) (.nm 10) (.ex (.call "_law_shown" (.cons (.v 3) .nil) [] .nil)) .none [("row", 10)]
def c_law_right_4_v2 : Ae := .comp false (.ix (.v 10) (.int 0)) (.nm 10) (.ex (.v 1)) .none [("row", 10)]
def c_law_right_5_v2 : Ae := .comp false (.ix (.v 10) (.int 0)) (.nm 10) (.ex (.v 1)) .none [("row", 10)]
def l_law_right_6_v2 : As := .for (.nm 14) (.ex c_law_right_5_v2) (.cons (.ite (.or (.cons (.not (.call "_law_pair_right" (.cons (.v 2) (.cons (.v 1) (.cons (.v 13) (.cons (.v 14) (.cons (.bl false) .nil))))) [] .nil)) (.cons (.not (.call "_law_kept" (.cons (.v 2) (.cons (.v 12) (.cons (.v 13) (.cons (.v 14) .nil)))) [] .nil)) .nil))) (.cons (.ret (.bl false)) .nil) .nil) (.cons (.ite (.not (.call "_law_pair_right" (.cons (.v 12) (.cons (.v 3) (.cons (.v 13) (.cons (.v 14) (.cons (.bl true) .nil))))) [] .nil)) (.cons (.ret (.bl false)) .nil) .nil) .nil))
def l_law_right_7_v2 : As := .for (.nm 13) (.ex c_law_right_4_v2) (.cons l_law_right_6_v2 .nil)
def f_law_right_v2 : Fn := ⟨15, ["well"], (.cons (.set (.nm 1) (.call "_law_drawn" (.cons (.v 0) .nil) [] .nil)) (.cons (.set (.nm 2) (.call "_law_shown" (.cons (.v 1) .nil) [] .nil)) (.cons (.set (.nm 3) (.lst true .nil)) (.cons l_law_right_1_v2 (.cons (.set (.nm 9) (.blt .tuple false (.cons c_law_right_3_v2 .nil))) (.cons (.set (.nm 12) (.call "screen" (.cons (.v 2) .nil) [] .nil)) (.cons (.ite (.or (.cons (.not (.call "_law_same" (.cons (.v 12) (.cons (.v 9) .nil)) [] .nil)) (.cons (.not (.call "_law_near" (.cons (.v 2) (.cons (.v 12) .nil)) [] .nil)) .nil))) (.cons (.ret (.bl false)) .nil) .nil) (.cons l_law_right_7_v2 (.cons (.ret (.call "_law_same" (.cons (.call "screen" .nil ["picture"] (.cons (.v 2) .nil)) (.cons (.v 9) .nil)) [] .nil)) .nil))))))))), false⟩
def l_law_1_k46 : As := .for (.nm 1) (.range1 (.blt .max false (.cons (.int 1) (.cons (.blt .min false (.cons (.int 8) (.cons (.blt .len false (.cons (.v 0) .nil)) .nil))) .nil)))) (.cons (.ite (.not (.call "_law_right" (.cons (.call "_law_well" (.cons (.v 0) (.cons (.v 1) .nil)) [] .nil) .nil) [] .nil)) (.cons (.ret (.bl false)) .nil) .nil) .nil)
def f_law_k46 : Fn := ⟨2, ["script"], (.cons l_law_1_k46 (.cons (.ret (.bl true)) .nil)), false⟩
end Mx.FB

end

section
set_option Elab.async false
set_option Elab.async false
set_option linter.all false
set_option maxRecDepth 100000
set_option maxHeartbeats 0
namespace Mx.K47
open PySem PySem.Spec PyProof.Rows L2 Mx
def top (i : Nat) : Stmt := PySem.Challenge.pw_rankedwishes_k47_drawn_and_hit.main.body.getD i (.Pass ⟨0, 0, 0, 0⟩)
def cons : List (Str × PV) := [(("AXES" : Str), (.tup [(.str "across"), (.str "down")])), (("LETTERS" : Str), (.str "abcdefghijklmnopqrstuvwxyz")), (("MOST_NAME" : Str), (.int 8))]
def e_is_integer : Ent := ⟨"is_integer", Mx.FB.f_is_integer, ["value"], ⟨("is_integer", none), "is_integer", "is_integer", defArgs (top 6), defBody (top 6), defScope (top 6), [], []⟩⟩
def e_is_pair : Ent := ⟨"is_pair", Mx.FB.f_is_pair, ["value"], ⟨("is_pair", none), "is_pair", "is_pair", defArgs (top 7), defBody (top 7), defScope (top 7), [], []⟩⟩
def e_is_ascending : Ent := ⟨"is_ascending", Mx.FB.f_is_ascending, ["row", "k"], ⟨("is_ascending", none), "is_ascending", "is_ascending", defArgs (top 8), defBody (top 8), defScope (top 8), [], []⟩⟩
def e_lowest : Ent := ⟨"lowest", Mx.FB.f_lowest, ["top", "bottom", "common"], ⟨("lowest", none), "lowest", "lowest", defArgs (top 9), defBody (top 9), defScope (top 9), [], []⟩⟩
def e_sum_of_two : Ent := ⟨"sum_of_two", Mx.FB.f_sum_of_two, ["a", "b"], ⟨("sum_of_two", none), "sum_of_two", "sum_of_two", defArgs (top 10), defBody (top 10), defScope (top 10), [], []⟩⟩
def e_is_less : Ent := ⟨"is_less", Mx.FB.f_is_less, ["a", "b"], ⟨("is_less", none), "is_less", "is_less", defArgs (top 11), defBody (top 11), defScope (top 11), [], []⟩⟩
def e_is_number : Ent := ⟨"is_number", Mx.FB.f_is_number, ["told"], ⟨("is_number", none), "is_number", "is_number", defArgs (top 13), defBody (top 13), defScope (top 13), [], []⟩⟩
def e_is_name : Ent := ⟨"is_name", Mx.FB.f_is_name, ["told", "sign"], ⟨("is_name", none), "is_name", "is_name", defArgs (top 17), defBody (top 17), defScope (top 17), [], []⟩⟩
def e_is_row : Ent := ⟨"is_row", Mx.FB.f_is_row, ["told", "is_one", "one"], ⟨("is_row", none), "is_row", "is_row", defArgs (top 20), defBody (top 20), defScope (top 20), [], []⟩⟩
def e_as_number : Ent := ⟨"as_number", Mx.FB.f_as_number, ["one"], ⟨("as_number", none), "as_number", "as_number", defArgs (top 21), defBody (top 21), defScope (top 21), [], []⟩⟩
def e_numbered : Ent := ⟨"numbered", Mx.FB.f_numbered, ["told", "row", "rows", "one", "size"], ⟨("numbered", none), "numbered", "numbered", defArgs (top 22), defBody (top 22), defScope (top 22), [], []⟩⟩
def e_along : Ent := ⟨"along", Mx.FB.f_along, ["row", "axis", "begin", "size"], ⟨("along", none), "along", "along", defArgs (top 23), defBody (top 23), defScope (top 23), [], []⟩⟩
def e_covers : Ent := ⟨"covers", Mx.FB.f_covers, ["row", "axis", "unit", "begin", "end"], ⟨("covers", none), "covers", "covers", defArgs (top 24), defBody (top 24), defScope (top 24), [], []⟩⟩
def e_top_name : Ent := ⟨"top_name", Mx.FB.f_top_name, ["rows", "x", "y", "found", "row"], ⟨("top_name", none), "top_name", "top_name", defArgs (top 25), defBody (top 25), defScope (top 25), [], []⟩⟩
def e_drawn : Ent := ⟨"drawn", Mx.FB.f_drawn, ["screen", "wide", "high", "rows", "number", "signs", "y", "x", "line", "name"], ⟨("drawn", none), "drawn", "drawn", defArgs (top 26), defBody (top 26), defScope (top 26), [], []⟩⟩
def e_hit : Ent := ⟨"hit", Mx.FB.f_hit, ["screen", "x", "y"], ⟨("hit", none), "hit", "hit", defArgs (top 27), defBody (top 27), defScope (top 27), [], []⟩⟩
def e_law_well : Ent := ⟨"_law_well", Mx.FB.f_law_well, ["script", "place", "cell"], ⟨("_law_well", none), "_law_well", "_law_well", defArgs (top 29), defBody (top 29), defScope (top 29), [], []⟩⟩
def e_law_dip : Ent := ⟨"_law_dip", Mx.FB.f_law_dip, ["well", "many", "figure", "mixed"], ⟨("_law_dip", none), "_law_dip", "_law_dip", defArgs (top 30), defBody (top 30), defScope (top 30), [], []⟩⟩
def e_law_same : Ent := ⟨"_law_same", Mx.FB.f_law_same, ["told", "due", "kind", "spot"], ⟨("_law_same", none), "_law_same", "_law_same", defArgs (top 31), defBody (top 31), defScope (top 31), [], []⟩⟩
def e_law_screen : Ent := ⟨"_law_screen", Mx.FB.f_law_screen, ["well", "names", "found", "turn", "name", "sizes", "wide", "high"], ⟨("_law_screen", none), "_law_screen", "_law_screen", defArgs (top 32), defBody (top 32), defScope (top 32), [], []⟩⟩
def e_law_top : Ent := ⟨"_law_top", Mx.FB.f_law_top, ["rows", "x", "y", "found", "name", "left", "upper", "wide", "high"], ⟨("_law_top", none), "_law_top", "_law_top", defArgs (top 33), defBody (top 33), defScope (top 33), [], []⟩⟩
def e_law_signs : Ent := ⟨"_law_signs", Mx.FB.f_law_signs, ["rows", "wide", "high", "found", "y", "line", "x"], ⟨("_law_signs", none), "_law_signs", "_law_signs", defArgs (top 34), defBody (top 34), defScope (top 34), [], []⟩⟩
def e_law_right : Ent := ⟨"_law_right", Mx.FB.f_law_right, ["well", "rows", "wide", "high", "due", "told", "turn", "at", "x", "y", "other"], ⟨("_law_right", none), "_law_right", "_law_right", defArgs (top 35), defBody (top 35), defScope (top 35), [], []⟩⟩
def e_law : Ent := ⟨"law", Mx.FB.f_law_k47, ["script", "spot"], ⟨("law", none), "law", "law", defArgs (top 36), defBody (top 36), defScope (top 36), [], []⟩⟩
def ents : List Ent := [e_is_integer, e_is_pair, e_is_ascending, e_lowest, e_sum_of_two, e_is_less, e_is_number, e_is_name, e_is_row, e_as_number, e_numbered, e_along, e_covers, e_top_name, e_drawn, e_hit, e_law_well, e_law_dip, e_law_same, e_law_screen, e_law_top, e_law_signs, e_law_right, e_law]
def PG : Pg := mkPg ents cons [("InvalidNumber" : Str), ("InvalidPicture" : Str)]
def LK : Lk := ⟨[("abs" : Str), ("all" : Str), ("any" : Str), ("bool" : Str), ("int" : Str), ("isinstance" : Str), ("len" : Str), ("list" : Str), ("max" : Str), ("min" : Str), ("range" : Str), ("sorted" : Str), ("str" : Str), ("tuple" : Str)], true, cons.map (·.1), [("InvalidNumber" : Str), ("InvalidPicture" : Str)], ents.map (·.f), false⟩
instance : Has PG "is_integer" Mx.FB.f_is_integer := ⟨by rfl⟩
instance : Has PG "is_pair" Mx.FB.f_is_pair := ⟨by rfl⟩
instance : Has PG "is_ascending" Mx.FB.f_is_ascending := ⟨by rfl⟩
instance : Has PG "lowest" Mx.FB.f_lowest := ⟨by rfl⟩
instance : Has PG "sum_of_two" Mx.FB.f_sum_of_two := ⟨by rfl⟩
instance : Has PG "is_less" Mx.FB.f_is_less := ⟨by rfl⟩
instance : Has PG "is_number" Mx.FB.f_is_number := ⟨by rfl⟩
instance : Has PG "is_name" Mx.FB.f_is_name := ⟨by rfl⟩
instance : Has PG "is_row" Mx.FB.f_is_row := ⟨by rfl⟩
instance : Has PG "as_number" Mx.FB.f_as_number := ⟨by rfl⟩
instance : Has PG "numbered" Mx.FB.f_numbered := ⟨by rfl⟩
instance : Has PG "along" Mx.FB.f_along := ⟨by rfl⟩
instance : Has PG "covers" Mx.FB.f_covers := ⟨by rfl⟩
instance : Has PG "top_name" Mx.FB.f_top_name := ⟨by rfl⟩
instance : Has PG "drawn" Mx.FB.f_drawn := ⟨by rfl⟩
instance : Has PG "hit" Mx.FB.f_hit := ⟨by rfl⟩
instance : Has PG "_law_well" Mx.FB.f_law_well := ⟨by rfl⟩
instance : Has PG "_law_dip" Mx.FB.f_law_dip := ⟨by rfl⟩
instance : Has PG "_law_same" Mx.FB.f_law_same := ⟨by rfl⟩
instance : Has PG "_law_screen" Mx.FB.f_law_screen := ⟨by rfl⟩
instance : Has PG "_law_top" Mx.FB.f_law_top := ⟨by rfl⟩
instance : Has PG "_law_signs" Mx.FB.f_law_signs := ⟨by rfl⟩
instance : Has PG "_law_right" Mx.FB.f_law_right := ⟨by rfl⟩
instance : Has PG "law" Mx.FB.f_law_k47 := ⟨by rfl⟩
instance : HasC PG "AXES" (.tup [(.str "across"), (.str "down")]) := ⟨by rfl⟩
instance : HasC PG "LETTERS" (.str "abcdefghijklmnopqrstuvwxyz") := ⟨by rfl⟩
instance : HasC PG "MOST_NAME" (.int 8) := ⟨by rfl⟩
instance : HasE PG [("InvalidNumber" : Str), ("InvalidPicture" : Str)] := ⟨by rfl⟩
theorem st_ok : ents.all (stOk LK) = true := by decide +kernel
end Mx.K47

end

section
set_option Elab.async false
set_option Elab.async false
set_option linter.all false
set_option maxRecDepth 100000
set_option maxHeartbeats 0
namespace Mx.K47
open PySem PySem.Spec PyProof.Rows L2 Mx
def dI : He.DefD := match top 2 with
  | .ClassDef _ _ _ (st :: _) _ _ _ _ _ _ _ => ⟨("WishError", some "__init__"), "__init__", "WishError.__init__", defArgs st, defBody st, defScope st, [], []⟩
  | _ => ⟨("", none), "", "", ⟨[], [], none, [], [], none, []⟩, [], ⟨.function, [], false, false, []⟩, [], []⟩
def loose : List Str := ([("__name__" : Str), ("WishError" : Str), ("InvalidNumber" : Str), ("InvalidPicture" : Str), ("is_integer" : Str), ("is_pair" : Str), ("is_ascending" : Str), ("lowest" : Str), ("sum_of_two" : Str), ("is_less" : Str), ("is_number" : Str), ("LETTERS" : Str), ("MOST_NAME" : Str), ("is_name" : Str), ("AXES" : Str), ("is_row" : Str), ("as_number" : Str), ("numbered" : Str), ("along" : Str), ("covers" : Str), ("top_name" : Str), ("drawn" : Str), ("hit" : Str), ("_law_well" : Str), ("_law_dip" : Str), ("_law_same" : Str), ("_law_screen" : Str), ("_law_top" : Str), ("_law_signs" : Str), ("_law_right" : Str)] : List Str)
def as : List Addr := [3, 6, 4, 59, 72, 84, 93, 100, 105, 112, 119, 126, 133, 138, 139, 144, 151, 156, 163, 170, 177, 182, 189, 196, 203, 210, 217, 224, 231, 238, 245, 0, 58, 71, 83, 92, 99, 104, 111, 118, 125, 132, 137, 143, 150, 155, 162, 169, 176, 181, 188, 195, 202, 209, 216, 223, 230, 237, 244, 1, 2, 5, 7, 8, 9, 10, 11, 12, 13, 14, 15, 16, 17, 18, 19, 20, 21, 22, 23, 24, 25, 26, 27, 28, 29, 30, 31, 32, 33, 34, 35, 36, 37, 38, 39, 40, 41, 42, 43, 44, 45, 46, 47, 48, 49, 50, 51, 52, 53, 54, 55, 56, 57, 60, 61, 62, 63, 64, 65, 66, 67, 68, 69, 70, 73, 74, 75, 76, 77, 78, 79, 80, 81, 82, 85, 86, 87, 88, 89, 90, 91]
abbrev Rw : PySem.W.OpenRow := PySem.W.OpenLaw.row PySem.Challenge.rw_rankedwishes_k47_drawn_and_hit
abbrev hk : PySem.W.Hook := hookM as (chkK LK PG.exc cons) (fnsOf ents PG dI)
def ob (s : PySem.W.SharedT) : AlM := obsMG as (chkK LK PG.exc cons) (fnsOf ents PG dI) (HandSHeadRun.getT s)
theorem ob_eq (s : PySem.W.SharedT) : ob s = hk.obs s.abs := obsMG_eq (HandSHeadRun.getT_eq s)
theorem run (w : World) : HandSHeadRun.RunEqI Rw (PySem.W.view Rw.prog [0, 36]) hk ob 20000 loose w := by
  unfold HandSHeadRun.RunEqI
  kernel_rfl
theorem txt : Txt LK PG ents cons dI := txt_of rfl rfl rfl st_ok fun _ => ⟨rfl, rfl, rfl, rfl, rfl, rfl, rfl, rfl, ⟨rfl, rfl, rfl, by decide +kernel, rfl, by decide +kernel, by decide +kernel⟩, rfl, rfl, rfl, _, _, _, _, _, _, _, _, _, _, rfl, fun _ => ⟨_, rfl⟩⟩
end Mx.K47

end

section
set_option Elab.async false
set_option linter.all false
set_option maxRecDepth 100000
set_option maxHeartbeats 4000000
set_option exponentiation.threshold 20000
namespace Mx.FB
open PySem PySem.Spec PyProof.Rows L2 Mx
/-! numbers as rationals -/
/-- a rational as a pair -/
def nq (r : Rat) : PV := .tup [.int r.num, .int (r.den : Int)]
instance (r : Rat) : Dt (nq r) := inferInstanceAs (Dt (.tup [.int r.num, .int (r.den : Int)]))
/-- how long a number is -/
def szn (n : Nat) : Nat := n.log2 + 1
def sz (r : Rat) : Nat := max (szn r.num.natAbs) (szn r.den)
theorem szn_lt (n : Nat) : n < 2 ^ szn n := Nat.lt_log2_self
theorem szn_le {n k : Nat} (h : n < 2 ^ k) (hk : 1 ≤ k := by omega) : szn n ≤ k := by
  unfold szn
  by_cases h0 : n = 0
  · subst h0; simpa using hk
  · have := (Nat.log2_lt h0).mpr h
    omega
theorem pw {a b : Nat} (h : a ≤ b) : 2 ^ a ≤ 2 ^ b := Nat.pow_le_pow_right (by decide) h
theorem sz_num (r : Rat) : r.num.natAbs < 2 ^ sz r := Nat.lt_of_lt_of_le (szn_lt _) (pw (Nat.le_max_left ..))
theorem sz_den (r : Rat) : r.den < 2 ^ sz r := Nat.lt_of_lt_of_le (szn_lt _) (pw (Nat.le_max_right ..))
theorem sz_of {r : Rat} {k : Nat} (h1 : r.num.natAbs < 2 ^ k) (h2 : r.den < 2 ^ k) (hk : 1 ≤ k) : sz r ≤ k := Nat.max_le.mpr ⟨szn_le h1 hk, szn_le h2 hk⟩
theorem sz_pos (r : Rat) : 1 ≤ sz r := Nat.le_trans (by unfold szn; omega) (Nat.le_max_left (szn r.num.natAbs) (szn r.den))
theorem den_ne (r : Rat) : (r.den : Int) ≠ 0 := by have := r.den_pos; omega
theorem den_pos (r : Rat) : (0 : Int) < r.den := by have := r.den_pos; omega
/-- a quotient in lowest terms is not longer than its top and bottom -/
theorem divInt_le (n : Int) {d : Int} (hd : d ≠ 0) : (Rat.divInt n d).num.natAbs ≤ n.natAbs ∧ (Rat.divInt n d).den ≤ d.natAbs := by
  rw [Rat.num_divInt, Rat.den_divInt, if_neg hd]
  have dv : (↑(d.gcd n) : Int) ∣ d.sign * n := Int.dvd_mul_of_dvd_right (Int.gcd_dvd_right ..)
  refine ⟨?_, Nat.div_le_self ..⟩
  rw [Int.natAbs_ediv_of_dvd dv, Int.natAbs_mul]
  refine Nat.le_trans (Nat.div_le_self ..) ?_
  rw [Int.natAbs_sign, if_neg hd, Nat.one_mul]
  exact Nat.le_refl _
theorem sz_divInt {n d : Int} {k : Nat} (hd : d ≠ 0) (h1 : n.natAbs < 2 ^ k) (h2 : d.natAbs < 2 ^ k) (hk : 1 ≤ k) : sz (Rat.divInt n d) ≤ k :=
  sz_of (Nat.lt_of_le_of_lt (divInt_le n hd).1 h1) (Nat.lt_of_le_of_lt (divInt_le n hd).2 h2) hk
theorem low_num (t : Int) {b : Int} (hb : b ≠ 0) : t.fdiv (if b < 0 then -(Nat.gcd t.natAbs b.natAbs : Int) else (Nat.gcd t.natAbs b.natAbs : Int)) = (Rat.divInt t b).num := by
  rw [Rat.num_divInt]
  have hg : Nat.gcd t.natAbs b.natAbs = b.gcd t := Nat.gcd_comm ..
  rw [hg]
  have d1 : (↑(b.gcd t) : Int) ∣ t := Int.gcd_dvd_right ..
  split
  · rename_i h
    rw [Int.sign_eq_neg_one_of_neg h, Int.fdiv_eq_ediv_of_dvd (Int.neg_dvd.mpr d1), Int.ediv_neg, Int.neg_mul, Int.one_mul, Int.neg_ediv_of_dvd d1]
  · rename_i h
    rw [Int.sign_eq_one_of_pos (by omega), Int.fdiv_eq_ediv_of_dvd d1, Int.one_mul]
theorem low_den (t : Int) {b : Int} (hb : b ≠ 0) : b.fdiv (if b < 0 then -(Nat.gcd t.natAbs b.natAbs : Int) else (Nat.gcd t.natAbs b.natAbs : Int)) = ((Rat.divInt t b).den : Int) := by
  rw [Rat.den_divInt, if_neg hb]
  have hg : Nat.gcd t.natAbs b.natAbs = b.gcd t := Nat.gcd_comm ..
  rw [hg]
  have d1 : (↑(b.gcd t) : Int) ∣ b := Int.gcd_dvd_left ..
  split
  · rename_i h
    rw [Int.fdiv_eq_ediv_of_dvd (Int.neg_dvd.mpr d1), Int.ediv_neg, Int.natCast_ediv, ← Int.neg_ediv_of_dvd d1]
    congr 1; omega
  · rename_i h
    rw [Int.fdiv_eq_ediv_of_dvd d1, Int.natCast_ediv]
    congr 1; omega
theorem low_nq (t : Int) {b : Int} (hb : b ≠ 0) : PV.tup [.int (t.fdiv (if b < 0 then -(Nat.gcd t.natAbs b.natAbs : Int) else (Nat.gcd t.natAbs b.natAbs : Int))), .int (b.fdiv (if b < 0 then -(Nat.gcd t.natAbs b.natAbs : Int) else (Nat.gcd t.natAbs b.natAbs : Int)))] = nq (Rat.divInt t b) := by
  rw [low_num t hb, low_den t hb]; rfl
theorem nq_inj {a b : Rat} (h : nq a = nq b) : a = b := by
  unfold nq at h
  simp only [PV.tup.injEq, List.cons.injEq, PV.int.injEq, and_true] at h
  exact Rat.ext h.1 (by omega)
theorem divInt_self' (r : Rat) : Rat.divInt r.num r.den = r := Rat.num_divInt_den r
theorem divInt_one (n : Int) : Rat.divInt n 1 = (n : Rat) := by
  have := Rat.num_divInt_den (n : Rat)
  simpa using this
theorem nq_int (n : Int) : nq (n : Rat) = .tup [.int n, .int 1] := by unfold nq; simp
theorem sz_int {n : Int} {k : Nat} (h : n.natAbs < 2 ^ k) (hk : 1 ≤ k := by omega) : sz (n : Rat) ≤ k := sz_of (by simpa using h) (by simpa using Nat.one_lt_two_pow (by omega)) hk
theorem sz_mul (a b : Rat) : sz (a * b) ≤ sz a + sz b := by
  have e : a * b = Rat.divInt (a.num * b.num) (a.den * b.den) := by
    conv => lhs; rw [← divInt_self' a, ← divInt_self' b]
    rw [Rat.divInt_mul_divInt]
  rw [e]
  refine sz_divInt (Int.mul_ne_zero (den_ne a) (den_ne b)) ?_ ?_ (by have := sz_pos a; omega)
  · rw [Int.natAbs_mul, Nat.pow_add]; exact Nat.mul_lt_mul'' (sz_num a) (sz_num b)
  · rw [Int.natAbs_mul, Nat.pow_add]; exact Nat.mul_lt_mul'' (by simpa using sz_den a) (by simpa using sz_den b)
theorem add_divInt (a b : Rat) : a + b = Rat.divInt (a.num * b.den + b.num * a.den) (a.den * b.den) := by
  conv => lhs; rw [← divInt_self' a, ← divInt_self' b]
  rw [Rat.divInt_add_divInt _ _ (den_ne a) (den_ne b)]
theorem mul_divInt (a b : Rat) : a * b = Rat.divInt (a.num * b.num) (a.den * b.den) := by
  conv => lhs; rw [← divInt_self' a, ← divInt_self' b]
  rw [Rat.divInt_mul_divInt]
theorem sz_add (a b : Rat) : sz (a + b) ≤ sz a + sz b + 1 := by
  rw [add_divInt]
  refine sz_divInt (Int.mul_ne_zero (den_ne a) (den_ne b)) ?_ ?_ (by omega)
  · have h1 : a.num.natAbs * b.den < 2 ^ (sz a + sz b) := by rw [Nat.pow_add]; exact Nat.mul_lt_mul'' (sz_num a) (sz_den b)
    have h2 : b.num.natAbs * a.den < 2 ^ (sz a + sz b) := by rw [Nat.add_comm, Nat.pow_add]; exact Nat.mul_lt_mul'' (sz_num b) (sz_den a)
    have h3 : (a.num * b.den + b.num * a.den).natAbs ≤ a.num.natAbs * b.den + b.num.natAbs * a.den := by
      refine Nat.le_trans (Int.natAbs_add_le ..) ?_
      rw [Int.natAbs_mul, Int.natAbs_mul]; simp
    rw [Nat.pow_succ]; omega
  · have h1 : a.den * b.den < 2 ^ (sz a + sz b) := by rw [Nat.pow_add]; exact Nat.mul_lt_mul'' (sz_den a) (sz_den b)
    rw [Int.natAbs_mul, Nat.pow_succ]
    simp only [Int.natAbs_natCast]; omega
theorem sz_neg (a : Rat) : sz (-a) = sz a := by unfold sz; simp
theorem fits_z {i j : Int} {k m : Nat} (h1 : i.natAbs < 2 ^ k) (h2 : j.natAbs < 2 ^ m) (h : k + m ≤ 900000) : fits i j := by
  have l : ∀ {n k : Nat}, n < 2 ^ k → n.log2 ≤ k := fun {n k} h => by
    by_cases h0 : n = 0
    · subst h0; simp
    · have := (Nat.log2_lt h0).mpr h; omega
  have a := l h1
  have b := l h2
  show i.natAbs.log2 + j.natAbs.log2 < 2000000
  omega
theorem fitd_z {j : Int} {k : Nat} (h : j.natAbs < 2 ^ k) (hk : k ≤ 8999) : fitd j := fitd_of (Nat.lt_of_lt_of_le h (pw hk))
theorem beq_f {i j : Int} (h : i ≠ j) : (i == j) = false := beq_eq_false_iff_ne.mpr h
/-! the program's own -/
theorem gcd_fit {t b : Int} {k : Nat} (hb : b ≠ 0) (h : b.natAbs < 2 ^ k) (hk : k ≤ 8999) : fitd (Nat.gcd t.natAbs b.natAbs : Int) ∧ fitd (-(Nat.gcd t.natAbs b.natAbs : Int)) := by
  have h1 : Nat.gcd t.natAbs b.natAbs ≤ b.natAbs := Nat.le_of_dvd (by omega) (Nat.gcd_dvd_right _ _)
  exact ⟨fitd_z (k := k) (by rw [Int.natAbs_natCast]; omega) hk, fitd_z (k := k) (by rw [Int.natAbs_neg, Int.natAbs_natCast]; omega) hk⟩
theorem s_lowest {PG : Pg} [Has PG "lowest" f_lowest] {n : Nat} (hn : 1 ≤ n) (h : MH) (a b : Int) (hb : b ≠ 0) (hs : b.natAbs < 2 ^ 8999) : call PG n "lowest" [.int a, .int b] [] [] h = .ok (nq (Rat.divInt a b)) h := by
  rw [call_ge hn rfl]
  obtain ⟨f1, f2⟩ := gcd_fit (t := a) hb hs (Nat.le_refl _)
  have hg : (Nat.gcd a.natAbs b.natAbs : Int) ≠ 0 := by
    have := Nat.gcd_pos_of_pos_right a.natAbs (show 0 < b.natAbs by omega)
    omega
  have hg2 : ¬ (a = 0 ∧ b = 0) := fun q => hb q.2
  have el := low_nq a hb
  by_cases hn : b < 0
  · rw [if_pos hn] at el
    simp [body, q_ev_v, q_ev_non, q_ev_bl, q_ev_int, q_ev_str, q_ev_con, q_ev_tup, q_ev_lst, q_ev_bin, q_ev_neg, q_ev_not, q_ev_cmp, q_ev_chain, q_ev_and, q_ev_or, q_ev_ifx, q_ev_ix, q_ev_sl, q_ev_call, q_ev_blt, q_ev_isi, q_ev_met, q_ev_tupS, q_ev_lstS, q_ev_rev, q_ev_dnew, q_ev_dzip, q_ev_fnv, q_ev_calv, q_ev_comp2, q_ev_dcomp, q_ev_sls, q_ev_val, q_evs_nil, q_evs_cons, q_evs_star, q_evD_nil, q_evD_cons, q_evAnd_cons, q_evAnd_cons2, q_evOr_cons, q_evOr_cons2, q_evIfs_none, q_evIfs_some, q_evo_none, q_evo_some, q_evi_ex, q_run1_ex, q_run1_set, q_run1_put, q_run1_aug, q_run1_augs, q_run1_ite, q_run1_whl, q_run1_for, q_run1_ret, q_run1_retN, q_run1_rais, q_run1_try, q_run1_brk, q_run1_cnt, q_run1_pas, q_runs_nil, q_runs_cons, q_runH_nil, q_runH_cons, tst, bltop, bindG, bindGs, cmpop, ofB, truthy, int1, int2, ltop, leop, binop, addop, subop, mulop, divop, modop, powop, ixop, items, litems, ditems, mkLst, mkDic, lenop, intop, isiop, tyOf, putop, src, wipeP, metop, metok, isLst, isDic, isStr, isLsq, isTp, appop, popL, getD, slop, revop, tupop, lstop, keyOf, inop, Aes.len, peq, scalP, eqF, isNon, isBl, augop, augix, f_lowest, hn, f1, f2, hg, hg2, hb]
    rw [end_rt, el]
  · rw [if_neg hn] at el
    simp [body, q_ev_v, q_ev_non, q_ev_bl, q_ev_int, q_ev_str, q_ev_con, q_ev_tup, q_ev_lst, q_ev_bin, q_ev_neg, q_ev_not, q_ev_cmp, q_ev_chain, q_ev_and, q_ev_or, q_ev_ifx, q_ev_ix, q_ev_sl, q_ev_call, q_ev_blt, q_ev_isi, q_ev_met, q_ev_tupS, q_ev_lstS, q_ev_rev, q_ev_dnew, q_ev_dzip, q_ev_fnv, q_ev_calv, q_ev_comp2, q_ev_dcomp, q_ev_sls, q_ev_val, q_evs_nil, q_evs_cons, q_evs_star, q_evD_nil, q_evD_cons, q_evAnd_cons, q_evAnd_cons2, q_evOr_cons, q_evOr_cons2, q_evIfs_none, q_evIfs_some, q_evo_none, q_evo_some, q_evi_ex, q_run1_ex, q_run1_set, q_run1_put, q_run1_aug, q_run1_augs, q_run1_ite, q_run1_whl, q_run1_for, q_run1_ret, q_run1_retN, q_run1_rais, q_run1_try, q_run1_brk, q_run1_cnt, q_run1_pas, q_runs_nil, q_runs_cons, q_runH_nil, q_runH_cons, tst, bltop, bindG, bindGs, cmpop, ofB, truthy, int1, int2, ltop, leop, binop, addop, subop, mulop, divop, modop, powop, ixop, items, litems, ditems, mkLst, mkDic, lenop, intop, isiop, tyOf, putop, src, wipeP, metop, metok, isLst, isDic, isStr, isLsq, isTp, appop, popL, getD, slop, revop, tupop, lstop, keyOf, inop, Aes.len, peq, scalP, eqF, isNon, isBl, augop, augix, f_lowest, hn, f1, f2, hg, hg2, hb]
    rw [end_rt, el]
theorem peq_nq (h : MH) (p q : Rat) : peq h (nq p) (nq q) = some (decide (p = q)) := by
  have e : peq h (nq p) (nq q) = some (decide (p.num = q.num ∧ p.den = q.den)) := by
    unfold peq nq
    simp [scalP, peqD, toD, toDs, SeqAt.shaped, PyData.eqv, PyData.eqvAll, PyData.canLay0, PyData.canLayAll0, PyData.depth, PyData.depthAll]
    rw [Bool.eq_iff_iff]
    simp
    omega
  rw [e]
  congr 1
  rw [decide_eq_decide]
  exact ⟨fun h => Rat.ext h.1 h.2, fun h => by rw [h]; exact ⟨rfl, rfl⟩⟩
theorem s_sum {PG : Pg} [Has PG "sum_of_two" f_sum_of_two] [Has PG "lowest" f_lowest] {n : Nat} (hn : 2 ≤ n) (h : MH) (p q : Rat) (hz : sz p + sz q ≤ 8990) : call PG n "sum_of_two" [nq p, nq q] [] [] h = .ok (nq (p + q)) h := by
  rw [call_ge (by omega) rfl]
  have m1 : fits p.num q.den := fits_z (sz_num p) (by simpa using sz_den q) (by omega)
  have m2 : fits q.num p.den := fits_z (sz_num q) (by simpa using sz_den p) (by omega)
  have m3 : fits p.den q.den := fits_z (k := sz p) (m := sz q) (by simpa using sz_den p) (by simpa using sz_den q) (by omega)
  have hd : (p.den : Int) * q.den ≠ 0 := Int.mul_ne_zero (den_ne p) (den_ne q)
  have hs : ((p.den : Int) * q.den).natAbs < 2 ^ 8999 := by
    rw [Int.natAbs_mul]
    refine Nat.lt_of_lt_of_le (Nat.mul_lt_mul'' (show _ < 2 ^ sz p by simpa using sz_den p) (show _ < 2 ^ sz q by simpa using sz_den q)) ?_
    rw [← Nat.pow_add]; exact pw (by omega)
  have e := s_lowest (PG := PG) (n := n - 1) (by omega) h (p.num * q.den + q.num * p.den) (p.den * q.den) hd hs
  rw [← add_divInt] at e
  by_cases c1 : p.den = 1
  · by_cases c2 : q.den = 1
    · have e2 : nq (p + q) = .tup [.int (p.num + q.num), .int 1] := by
        have : p + q = ((p.num + q.num : Int) : Rat) := by
          rw [add_divInt, c1, c2]; simp [divInt_one]
        rw [this, nq_int]
      rw [e2]
      simp [body, q_ev_v, q_ev_non, q_ev_bl, q_ev_int, q_ev_str, q_ev_con, q_ev_tup, q_ev_lst, q_ev_bin, q_ev_neg, q_ev_not, q_ev_cmp, q_ev_chain, q_ev_and, q_ev_or, q_ev_ifx, q_ev_ix, q_ev_sl, q_ev_call, q_ev_blt, q_ev_isi, q_ev_met, q_ev_tupS, q_ev_lstS, q_ev_rev, q_ev_dnew, q_ev_dzip, q_ev_fnv, q_ev_calv, q_ev_comp2, q_ev_dcomp, q_ev_sls, q_ev_val, q_evs_nil, q_evs_cons, q_evs_star, q_evD_nil, q_evD_cons, q_evAnd_cons, q_evAnd_cons2, q_evOr_cons, q_evOr_cons2, q_evIfs_none, q_evIfs_some, q_evo_none, q_evo_some, q_evi_ex, q_run1_ex, q_run1_set, q_run1_put, q_run1_aug, q_run1_augs, q_run1_ite, q_run1_whl, q_run1_for, q_run1_ret, q_run1_retN, q_run1_rais, q_run1_try, q_run1_brk, q_run1_cnt, q_run1_pas, q_runs_nil, q_runs_cons, q_runH_nil, q_runH_cons, tst, bltop, bindG, bindGs, cmpop, ofB, truthy, int1, int2, ltop, leop, binop, addop, subop, mulop, divop, modop, powop, ixop, items, litems, ditems, mkLst, mkDic, lenop, intop, isiop, tyOf, putop, src, wipeP, metop, metok, isLst, isDic, isStr, isLsq, isTp, appop, popL, getD, slop, revop, tupop, lstop, keyOf, inop, Aes.len, peq, scalP, eqF, isNon, isBl, augop, augix, f_sum_of_two, nq, c1, c2]
      exact end_rt
    · have c2' : ((q.den : Int) == 1) = false := beq_f (by omega)
      simp only [c1, Int.natCast_one, Int.one_mul, Int.mul_one] at e m2 m3
      simp [body, q_ev_v, q_ev_non, q_ev_bl, q_ev_int, q_ev_str, q_ev_con, q_ev_tup, q_ev_lst, q_ev_bin, q_ev_neg, q_ev_not, q_ev_cmp, q_ev_chain, q_ev_and, q_ev_or, q_ev_ifx, q_ev_ix, q_ev_sl, q_ev_call, q_ev_blt, q_ev_isi, q_ev_met, q_ev_tupS, q_ev_lstS, q_ev_rev, q_ev_dnew, q_ev_dzip, q_ev_fnv, q_ev_calv, q_ev_comp2, q_ev_dcomp, q_ev_sls, q_ev_val, q_evs_nil, q_evs_cons, q_evs_star, q_evD_nil, q_evD_cons, q_evAnd_cons, q_evAnd_cons2, q_evOr_cons, q_evOr_cons2, q_evIfs_none, q_evIfs_some, q_evo_none, q_evo_some, q_evi_ex, q_run1_ex, q_run1_set, q_run1_put, q_run1_aug, q_run1_augs, q_run1_ite, q_run1_whl, q_run1_for, q_run1_ret, q_run1_retN, q_run1_rais, q_run1_try, q_run1_brk, q_run1_cnt, q_run1_pas, q_runs_nil, q_runs_cons, q_runH_nil, q_runH_cons, tst, bltop, bindG, bindGs, cmpop, ofB, truthy, int1, int2, ltop, leop, binop, addop, subop, mulop, divop, modop, powop, ixop, items, litems, ditems, mkLst, mkDic, lenop, intop, isiop, tyOf, putop, src, wipeP, metop, metok, isLst, isDic, isStr, isLsq, isTp, appop, popL, getD, slop, revop, tupop, lstop, keyOf, inop, Aes.len, peq, scalP, eqF, isNon, isBl, augop, augix, f_sum_of_two, nq, c1, c2', m1, m2, m3, e]
      exact end_rt
  · have c1' : ((p.den : Int) == 1) = false := beq_f (by omega)
    simp [body, q_ev_v, q_ev_non, q_ev_bl, q_ev_int, q_ev_str, q_ev_con, q_ev_tup, q_ev_lst, q_ev_bin, q_ev_neg, q_ev_not, q_ev_cmp, q_ev_chain, q_ev_and, q_ev_or, q_ev_ifx, q_ev_ix, q_ev_sl, q_ev_call, q_ev_blt, q_ev_isi, q_ev_met, q_ev_tupS, q_ev_lstS, q_ev_rev, q_ev_dnew, q_ev_dzip, q_ev_fnv, q_ev_calv, q_ev_comp2, q_ev_dcomp, q_ev_sls, q_ev_val, q_evs_nil, q_evs_cons, q_evs_star, q_evD_nil, q_evD_cons, q_evAnd_cons, q_evAnd_cons2, q_evOr_cons, q_evOr_cons2, q_evIfs_none, q_evIfs_some, q_evo_none, q_evo_some, q_evi_ex, q_run1_ex, q_run1_set, q_run1_put, q_run1_aug, q_run1_augs, q_run1_ite, q_run1_whl, q_run1_for, q_run1_ret, q_run1_retN, q_run1_rais, q_run1_try, q_run1_brk, q_run1_cnt, q_run1_pas, q_runs_nil, q_runs_cons, q_runH_nil, q_runH_cons, tst, bltop, bindG, bindGs, cmpop, ofB, truthy, int1, int2, ltop, leop, binop, addop, subop, mulop, divop, modop, powop, ixop, items, litems, ditems, mkLst, mkDic, lenop, intop, isiop, tyOf, putop, src, wipeP, metop, metok, isLst, isDic, isStr, isLsq, isTp, appop, popL, getD, slop, revop, tupop, lstop, keyOf, inop, Aes.len, peq, scalP, eqF, isNon, isBl, augop, augix, f_sum_of_two, nq, c1', m1, m2, m3, e]
    exact end_rt
theorem s_is_integer {PG : Pg} [Has PG "is_integer" f_is_integer] {n : Nat} (hn : 1 ≤ n) (h : MH) (i : Int) : call PG n "is_integer" [.int i] [] [] h = .ok (.bl true) h := by
  rw [call_ge hn rfl]
  simp [body, q_ev_v, q_ev_non, q_ev_bl, q_ev_int, q_ev_str, q_ev_con, q_ev_tup, q_ev_lst, q_ev_bin, q_ev_neg, q_ev_not, q_ev_cmp, q_ev_chain, q_ev_and, q_ev_or, q_ev_ifx, q_ev_ix, q_ev_sl, q_ev_call, q_ev_blt, q_ev_isi, q_ev_met, q_ev_tupS, q_ev_lstS, q_ev_rev, q_ev_dnew, q_ev_dzip, q_ev_fnv, q_ev_calv, q_ev_comp2, q_ev_dcomp, q_ev_sls, q_ev_val, q_evs_nil, q_evs_cons, q_evs_star, q_evD_nil, q_evD_cons, q_evAnd_cons, q_evAnd_cons2, q_evOr_cons, q_evOr_cons2, q_evIfs_none, q_evIfs_some, q_evo_none, q_evo_some, q_evi_ex, q_run1_ex, q_run1_set, q_run1_put, q_run1_aug, q_run1_augs, q_run1_ite, q_run1_whl, q_run1_for, q_run1_ret, q_run1_retN, q_run1_rais, q_run1_try, q_run1_brk, q_run1_cnt, q_run1_pas, q_runs_nil, q_runs_cons, q_runH_nil, q_runH_cons, tst, bltop, bindG, bindGs, cmpop, ofB, truthy, int1, int2, ltop, leop, binop, addop, subop, mulop, divop, modop, powop, ixop, items, litems, ditems, mkLst, mkDic, lenop, intop, isiop, tyOf, putop, src, wipeP, metop, metok, isLst, isDic, isStr, isLsq, isTp, appop, popL, getD, slop, revop, tupop, lstop, keyOf, inop, Aes.len, peq, scalP, eqF, isNon, isBl, augop, augix, f_is_integer, subB]
  exact end_rt
theorem s_is_pair {PG : Pg} [Has PG "is_pair" f_is_pair] {n : Nat} (hn : 1 ≤ n) (h : MH) (x y : PV) : call PG n "is_pair" [.tup [x, y]] [] [] h = .ok (.bl true) h := by
  rw [call_ge hn rfl]
  simp [body, q_ev_v, q_ev_non, q_ev_bl, q_ev_int, q_ev_str, q_ev_con, q_ev_tup, q_ev_lst, q_ev_bin, q_ev_neg, q_ev_not, q_ev_cmp, q_ev_chain, q_ev_and, q_ev_or, q_ev_ifx, q_ev_ix, q_ev_sl, q_ev_call, q_ev_blt, q_ev_isi, q_ev_met, q_ev_tupS, q_ev_lstS, q_ev_rev, q_ev_dnew, q_ev_dzip, q_ev_fnv, q_ev_calv, q_ev_comp2, q_ev_dcomp, q_ev_sls, q_ev_val, q_evs_nil, q_evs_cons, q_evs_star, q_evD_nil, q_evD_cons, q_evAnd_cons, q_evAnd_cons2, q_evOr_cons, q_evOr_cons2, q_evIfs_none, q_evIfs_some, q_evo_none, q_evo_some, q_evi_ex, q_run1_ex, q_run1_set, q_run1_put, q_run1_aug, q_run1_augs, q_run1_ite, q_run1_whl, q_run1_for, q_run1_ret, q_run1_retN, q_run1_rais, q_run1_try, q_run1_brk, q_run1_cnt, q_run1_pas, q_runs_nil, q_runs_cons, q_runH_nil, q_runH_cons, tst, bltop, bindG, bindGs, cmpop, ofB, truthy, int1, int2, ltop, leop, binop, addop, subop, mulop, divop, modop, powop, ixop, items, litems, ditems, mkLst, mkDic, lenop, intop, isiop, tyOf, putop, src, wipeP, metop, metok, isLst, isDic, isStr, isLsq, isTp, appop, popL, getD, slop, revop, tupop, lstop, keyOf, inop, Aes.len, peq, scalP, eqF, isNon, isBl, augop, augix, f_is_pair, subB]
  exact end_rt
/-- a pair of integers -/
def pi (p : Int × Int) : PV := .tup [.int p.1, .int p.2]
instance (p : Int × Int) : Dt (pi p) := inferInstanceAs (Dt (.tup [.int p.1, .int p.2]))
theorem nq_pi (r : Rat) : nq r = pi (r.num, (r.den : Int)) := rfl
/-- in lowest terms -/
def lowP (p : Int × Int) : Bool := decide (0 < p.2) && decide (Nat.gcd p.1.natAbs p.2.natAbs = 1)
theorem lowP_nq (r : Rat) : lowP (r.num, (r.den : Int)) = true := by
  unfold lowP
  have h1 := r.den_pos
  have h2 := r.reduced
  simp only [Bool.and_eq_true, decide_eq_true_eq, Int.natAbs_natCast]
  exact ⟨by omega, h2⟩
theorem lowP_rat {p : Int × Int} (h : lowP p = true) : pi p = nq (Rat.divInt p.1 p.2) := by
  unfold lowP at h
  simp only [Bool.and_eq_true, decide_eq_true_eq] at h
  obtain ⟨h1, h2⟩ := h
  unfold pi nq
  rw [Rat.num_divInt, Rat.den_divInt, if_neg (by omega)]
  have hg : p.2.gcd p.1 = 1 := by rw [Int.gcd_comm]; exact h2
  rw [hg, Int.sign_eq_one_of_pos h1]
  simp
  omega
theorem lowP_iff {p : Int × Int} : nq (Rat.divInt p.1 p.2) = pi p ↔ lowP p = true := by
  constructor
  · intro h2
    unfold nq pi at h2
    simp only [PV.tup.injEq, List.cons.injEq, PV.int.injEq, and_true] at h2
    have := lowP_nq (Rat.divInt p.1 p.2)
    rw [h2.1, h2.2] at this
    exact this
  · intro h
    exact (lowP_rat h).symm
theorem peq_pi (h : MH) (p q : Int × Int) : peq h (pi p) (pi q) = some (decide (p = q)) := by
  obtain ⟨a, b⟩ := p
  obtain ⟨c, d⟩ := q
  unfold peq pi
  simp [scalP, peqD, toD, toDs, SeqAt.shaped, PyData.eqv, PyData.eqvAll, PyData.canLay0, PyData.canLayAll0, PyData.depth, PyData.depthAll]
  rw [Bool.eq_iff_iff]
  simp
theorem pi_inj {p q : Int × Int} : pi p = pi q ↔ p = q := by
  obtain ⟨a, b⟩ := p
  obtain ⟨c, d⟩ := q
  simp [pi]
theorem s_is_number {PG : Pg} [Has PG "is_number" f_is_number] [Has PG "is_integer" f_is_integer] [Has PG "is_pair" f_is_pair] [Has PG "lowest" f_lowest] {n : Nat} (hn : 2 ≤ n) (h : MH) (p : Int × Int) (hs : p.2.natAbs < 2 ^ 8999) : call PG n "is_number" [pi p] [] [] h = .ok (.bl (lowP p)) h := by
  rw [call_ge (by omega) rfl]
  have e1 := s_is_pair (PG := PG) (n := n - 1) (by omega) h (.int p.1) (.int p.2)
  have e2 := s_is_integer (PG := PG) (n := n - 1) (by omega) h p.1
  have e3 := s_is_integer (PG := PG) (n := n - 1) (by omega) h p.2
  by_cases h1 : p.2 < 1
  · have : lowP p = false := by
      unfold lowP
      rw [decide_eq_false (by omega)]; rfl
    rw [this]
    simp [body, q_ev_v, q_ev_non, q_ev_bl, q_ev_int, q_ev_str, q_ev_con, q_ev_tup, q_ev_lst, q_ev_bin, q_ev_neg, q_ev_not, q_ev_cmp, q_ev_chain, q_ev_and, q_ev_or, q_ev_ifx, q_ev_ix, q_ev_sl, q_ev_call, q_ev_blt, q_ev_isi, q_ev_met, q_ev_tupS, q_ev_lstS, q_ev_rev, q_ev_dnew, q_ev_dzip, q_ev_fnv, q_ev_calv, q_ev_comp2, q_ev_dcomp, q_ev_sls, q_ev_val, q_evs_nil, q_evs_cons, q_evs_star, q_evD_nil, q_evD_cons, q_evAnd_cons, q_evAnd_cons2, q_evOr_cons, q_evOr_cons2, q_evIfs_none, q_evIfs_some, q_evo_none, q_evo_some, q_evi_ex, q_run1_ex, q_run1_set, q_run1_put, q_run1_aug, q_run1_augs, q_run1_ite, q_run1_whl, q_run1_for, q_run1_ret, q_run1_retN, q_run1_rais, q_run1_try, q_run1_brk, q_run1_cnt, q_run1_pas, q_runs_nil, q_runs_cons, q_runH_nil, q_runH_cons, tst, bltop, bindG, bindGs, cmpop, ofB, truthy, int1, int2, ltop, leop, binop, addop, subop, mulop, divop, modop, powop, ixop, items, litems, ditems, mkLst, mkDic, lenop, intop, isiop, tyOf, putop, src, wipeP, metop, metok, isLst, isDic, isStr, isLsq, isTp, appop, popL, getD, slop, revop, tupop, lstop, keyOf, inop, Aes.len, peq, scalP, eqF, isNon, isBl, augop, augix, f_is_number, pi, e1, e2, e3, h1]
    exact end_rt
  · have e5 := s_lowest (PG := PG) (n := n - 1) (by omega) h p.1 p.2 (by omega) hs
    have e4 := peq_pi h ((Rat.divInt p.1 p.2).num, ((Rat.divInt p.1 p.2).den : Int)) p
    have e6 : decide (((Rat.divInt p.1 p.2).num, ((Rat.divInt p.1 p.2).den : Int)) = p) = lowP p := by
      rw [Bool.eq_iff_iff, decide_eq_true_iff, ← lowP_iff, nq_pi, pi_inj]
    rw [e6] at e4
    rw [nq_pi] at e5
    unfold pi at e4 e5 ⊢
    simp [body, q_ev_v, q_ev_non, q_ev_bl, q_ev_int, q_ev_str, q_ev_con, q_ev_tup, q_ev_lst, q_ev_bin, q_ev_neg, q_ev_not, q_ev_cmp, q_ev_chain, q_ev_and, q_ev_or, q_ev_ifx, q_ev_ix, q_ev_sl, q_ev_call, q_ev_blt, q_ev_isi, q_ev_met, q_ev_tupS, q_ev_lstS, q_ev_rev, q_ev_dnew, q_ev_dzip, q_ev_fnv, q_ev_calv, q_ev_comp2, q_ev_dcomp, q_ev_sls, q_ev_val, q_evs_nil, q_evs_cons, q_evs_star, q_evD_nil, q_evD_cons, q_evAnd_cons, q_evAnd_cons2, q_evOr_cons, q_evOr_cons2, q_evIfs_none, q_evIfs_some, q_evo_none, q_evo_some, q_evi_ex, q_run1_ex, q_run1_set, q_run1_put, q_run1_aug, q_run1_augs, q_run1_ite, q_run1_whl, q_run1_for, q_run1_ret, q_run1_retN, q_run1_rais, q_run1_try, q_run1_brk, q_run1_cnt, q_run1_pas, q_runs_nil, q_runs_cons, q_runH_nil, q_runH_cons, tst, bltop, bindG, bindGs, cmpop, ofB, truthy, int1, int2, ltop, leop, binop, addop, subop, mulop, divop, modop, powop, ixop, items, litems, ditems, mkLst, mkDic, lenop, intop, isiop, tyOf, putop, src, wipeP, metop, metok, isLst, isDic, isStr, isLsq, isTp, appop, popL, getD, slop, revop, tupop, lstop, keyOf, inop, Aes.len, peq, scalP, eqF, isNon, isBl, augop, augix, f_is_number, e1, e2, e3, h1, e5, -peq, e4]
    exact end_rt
theorem s_is_nq {PG : Pg} [Has PG "is_number" f_is_number] [Has PG "is_integer" f_is_integer] [Has PG "is_pair" f_is_pair] [Has PG "lowest" f_lowest] {n : Nat} (hn : 2 ≤ n) (h : MH) (r : Rat) (hs : sz r ≤ 8999) : call PG n "is_number" [nq r] [] [] h = .ok (.bl true) h := by
  have := s_is_number (PG := PG) hn h (r.num, (r.den : Int)) (by simpa using Nat.lt_of_lt_of_le (sz_den r) (pw hs))
  rw [lowP_nq] at this
  exact this
/-! sums -/
def rsum (rs : List Rat) : Rat := rs.foldl (· + ·) 0
/-- how long a sum may get -/
def szs : List Rat → Nat
  | [] => 0
  | r :: rs => sz r + 1 + szs rs
theorem szs_app (a b : List Rat) : szs (a ++ b) = szs a + szs b := by
  induction a with
  | nil => simp [szs]
  | cons r a ih => simp [szs, ih]; omega
theorem szs_le {rs : List Rat} {k : Nat} (h : ∀ r ∈ rs, sz r ≤ k) : szs rs ≤ rs.length * (k + 1) := by
  induction rs with
  | nil => simp [szs]
  | cons r rs ih =>
    have h1 := h r List.mem_cons_self
    have h2 := ih fun x hx => h x (List.mem_cons_of_mem _ hx)
    simp only [szs, List.length_cons, Nat.add_mul]
    omega
theorem sz_fold {rs : List Rat} : ∀ {a : Rat}, sz (rs.foldl (· + ·) a) ≤ sz a + szs rs := by
  induction rs with
  | nil => intro a; simp [szs]
  | cons r rs ih =>
    intro a
    have h1 := ih (a := a + r)
    have h2 := sz_add a r
    simp only [List.foldl_cons, szs]
    omega
theorem sz_zero : sz 0 = 1 := by decide
theorem nq_zero : nq 0 = .tup [.int 0, .int 1] := rfl
end Mx.FB

end

section
set_option Elab.async false
set_option linter.all false
set_option maxRecDepth 100000
set_option maxHeartbeats 4000000
set_option exponentiation.threshold 20000
namespace Mx.FB
open PySem PySem.Spec PyProof.Rows L2 Mx
/-! names -/
def LET : Str := "abcdefghijklmnopqrstuvwxyz"
/-- a sign that is a letter -/
def isLt (c : Nat) : Bool := !(Builtin.Str.occurrences LET ⟨#[c]⟩ 0 LET.length 1).isEmpty
def isNm (x : Str) : Bool := decide (1 ≤ x.length ∧ x.length ≤ 8) && x.cps.toList.all isLt
theorem isLt_az : ∀ c, 97 ≤ c → c ≤ 122 → isLt c = true := by
  have : ∀ c : Nat, c < 123 → 97 ≤ c → isLt c = true := by decide +kernel
  intro c h1 h2
  exact this c (by omega) h1
theorem src_str (x : Str) (h : MH) : src (.str x) h = some ([], x.cps.toList.map fun c => PV.str ⟨#[c]⟩) := rfl
theorem len_cps (x : Str) : x.length = x.cps.toList.length := by simp [Str.length]
theorem small {a b : Nat} (h : a ≤ b) (hb : b ≤ 1000000 := by decide) : a ≤ sizeLine := by rw [sizeLine_eq]; omega
theorem allB_map {α : Type} {f : α → Bool} : ∀ {l : List α}, allB (l.map fun a => PV.bl (f a)) = some (l.map f)
  | [] => rfl
  | a :: l => by rw [List.map_cons, allB, allB_map]; rfl
theorem all_id {α : Type} {f : α → Bool} {l : List α} : (l.map f).all id = l.all f := by rw [List.all_map]; rfl
theorem s_is_name {PG : Pg} [Has PG "is_name" f_is_name] [HasC PG "LETTERS" (.str "abcdefghijklmnopqrstuvwxyz")] [HasC PG "MOST_NAME" (.int 8)] {n : Nat} (hn : 1 ≤ n) (h : MH) (x : Str) (hx : x.length ≤ 1000000) : call PG n "is_name" [.str x] [] [] h = .ok (.bl (isNm x)) h := by
  rw [call_ge (by omega) rfl]
  have zl : x.length ≤ sizeLine := small hx (Nat.le_refl _)
  have ec : ev PG (call PG (n - 1)) c_is_name_1 [some (.str x), none] h = .ok (.lst (x.cps.toList.map fun c => PV.bl (isLt c))) h := by
    have := comp_mp (P := PG) (cl := call PG (n - 1)) (elt := .cmp .inn (.v 1) (.con "LETTERS")) (gt := .nm 1) (it := .ex (.v 0)) (ifs := .none) (own := [("sign", 1)]) (ρ := [some (.str x), none]) (h := h) (h' := h) (l := []) (g := fun c => PV.str ⟨#[c]⟩) (xs := x.cps.toList) (f := fun c => PV.bl (isLt c))
      (by simp [body, q_ev_v, q_ev_non, q_ev_bl, q_ev_int, q_ev_str, q_ev_con, q_ev_tup, q_ev_lst, q_ev_bin, q_ev_neg, q_ev_not, q_ev_cmp, q_ev_chain, q_ev_and, q_ev_or, q_ev_ifx, q_ev_ix, q_ev_sl, q_ev_call, q_ev_blt, q_ev_isi, q_ev_met, q_ev_tupS, q_ev_lstS, q_ev_rev, q_ev_dnew, q_ev_dzip, q_ev_fnv, q_ev_calv, q_ev_comp2, q_ev_dcomp, q_ev_sls, q_ev_val, q_evs_nil, q_evs_cons, q_evs_star, q_evD_nil, q_evD_cons, q_evAnd_cons, q_evAnd_cons2, q_evOr_cons, q_evOr_cons2, q_evIfs_none, q_evIfs_some, q_evo_none, q_evo_some, q_evi_ex, q_run1_ex, q_run1_set, q_run1_put, q_run1_aug, q_run1_augs, q_run1_ite, q_run1_whl, q_run1_for, q_run1_ret, q_run1_retN, q_run1_rais, q_run1_try, q_run1_brk, q_run1_cnt, q_run1_pas, q_runs_nil, q_runs_cons, q_runH_nil, q_runH_cons, tst, bltop, bindG, bindGs, cmpop, ofB, truthy, int1, int2, ltop, leop, binop, addop, subop, mulop, divop, modop, powop, ixop, items, litems, ditems, mkLst, mkDic, lenop, intop, isiop, tyOf, putop, src, wipeP, metop, metok, isLst, isDic, isStr, isLsq, isTp, appop, popL, getD, slop, revop, tupop, lstop, keyOf, inop, Aes.len, peq, scalP, eqF, isNon, isBl, augop, augix, src_str, -src]) chk_nil (by rw [← len_cps]; exact zl) (fun c hc => by
        simp [body, q_ev_v, q_ev_non, q_ev_bl, q_ev_int, q_ev_str, q_ev_con, q_ev_tup, q_ev_lst, q_ev_bin, q_ev_neg, q_ev_not, q_ev_cmp, q_ev_chain, q_ev_and, q_ev_or, q_ev_ifx, q_ev_ix, q_ev_sl, q_ev_call, q_ev_blt, q_ev_isi, q_ev_met, q_ev_tupS, q_ev_lstS, q_ev_rev, q_ev_dnew, q_ev_dzip, q_ev_fnv, q_ev_calv, q_ev_comp2, q_ev_dcomp, q_ev_sls, q_ev_val, q_evs_nil, q_evs_cons, q_evs_star, q_evD_nil, q_evD_cons, q_evAnd_cons, q_evAnd_cons2, q_evOr_cons, q_evOr_cons2, q_evIfs_none, q_evIfs_some, q_evo_none, q_evo_some, q_evi_ex, q_run1_ex, q_run1_set, q_run1_put, q_run1_aug, q_run1_augs, q_run1_ite, q_run1_whl, q_run1_for, q_run1_ret, q_run1_retN, q_run1_rais, q_run1_try, q_run1_brk, q_run1_cnt, q_run1_pas, q_runs_nil, q_runs_cons, q_runH_nil, q_runH_cons, tst, bltop, bindG, bindGs, cmpop, ofB, truthy, int1, int2, ltop, leop, binop, addop, subop, mulop, divop, modop, powop, ixop, items, litems, ditems, mkLst, mkDic, lenop, intop, isiop, tyOf, putop, src, wipeP, metop, metok, isLst, isDic, isStr, isLsq, isTp, appop, popL, getD, slop, revop, tupop, lstop, keyOf, inop, Aes.len, peq, scalP, eqF, isNon, isBl, augop, augix, turnC, HasC.eq (P := PG) (x := "LETTERS"), isLt, LET]) false
    exact this
  by_cases h1 : 1 ≤ x.length
  · by_cases h2 : x.length ≤ 8
    · have e : isNm x = x.cps.toList.all isLt := by unfold isNm; rw [decide_eq_true ⟨h1, h2⟩]; rfl
      rw [e]
      have i1 : (1 : Int) ≤ (x.length : Int) := by omega
      have i2 : (x.length : Int) ≤ 8 := by omega
      simp [body, q_ev_v, q_ev_non, q_ev_bl, q_ev_int, q_ev_str, q_ev_con, q_ev_tup, q_ev_lst, q_ev_bin, q_ev_neg, q_ev_not, q_ev_cmp, q_ev_chain, q_ev_and, q_ev_or, q_ev_ifx, q_ev_ix, q_ev_sl, q_ev_call, q_ev_blt, q_ev_isi, q_ev_met, q_ev_tupS, q_ev_lstS, q_ev_rev, q_ev_dnew, q_ev_dzip, q_ev_fnv, q_ev_calv, q_ev_comp2, q_ev_dcomp, q_ev_sls, q_ev_val, q_evs_nil, q_evs_cons, q_evs_star, q_evD_nil, q_evD_cons, q_evAnd_cons, q_evAnd_cons2, q_evOr_cons, q_evOr_cons2, q_evIfs_none, q_evIfs_some, q_evo_none, q_evo_some, q_evi_ex, q_run1_ex, q_run1_set, q_run1_put, q_run1_aug, q_run1_augs, q_run1_ite, q_run1_whl, q_run1_for, q_run1_ret, q_run1_retN, q_run1_rais, q_run1_try, q_run1_brk, q_run1_cnt, q_run1_pas, q_runs_nil, q_runs_cons, q_runH_nil, q_runH_cons, tst, bltop, bindG, bindGs, cmpop, ofB, truthy, int1, int2, ltop, leop, binop, addop, subop, mulop, divop, modop, powop, ixop, items, litems, ditems, mkLst, mkDic, lenop, intop, isiop, tyOf, putop, src, wipeP, metop, metok, isLst, isDic, isStr, isLsq, isTp, appop, popL, getD, slop, revop, tupop, lstop, keyOf, inop, Aes.len, peq, scalP, eqF, isNon, isBl, augop, augix, f_is_name, subB, zl, HasC.eq (P := PG) (x := "MOST_NAME"), h1, h2, i1, i2, ec, boolsop, allB_map]
      exact end_rt
    · have e : isNm x = false := by unfold isNm; rw [decide_eq_false (by omega)]; rfl
      rw [e]
      have i1 : (1 : Int) ≤ (x.length : Int) := by omega
      have i2 : ¬ (x.length : Int) ≤ 8 := by omega
      simp [body, q_ev_v, q_ev_non, q_ev_bl, q_ev_int, q_ev_str, q_ev_con, q_ev_tup, q_ev_lst, q_ev_bin, q_ev_neg, q_ev_not, q_ev_cmp, q_ev_chain, q_ev_and, q_ev_or, q_ev_ifx, q_ev_ix, q_ev_sl, q_ev_call, q_ev_blt, q_ev_isi, q_ev_met, q_ev_tupS, q_ev_lstS, q_ev_rev, q_ev_dnew, q_ev_dzip, q_ev_fnv, q_ev_calv, q_ev_comp2, q_ev_dcomp, q_ev_sls, q_ev_val, q_evs_nil, q_evs_cons, q_evs_star, q_evD_nil, q_evD_cons, q_evAnd_cons, q_evAnd_cons2, q_evOr_cons, q_evOr_cons2, q_evIfs_none, q_evIfs_some, q_evo_none, q_evo_some, q_evi_ex, q_run1_ex, q_run1_set, q_run1_put, q_run1_aug, q_run1_augs, q_run1_ite, q_run1_whl, q_run1_for, q_run1_ret, q_run1_retN, q_run1_rais, q_run1_try, q_run1_brk, q_run1_cnt, q_run1_pas, q_runs_nil, q_runs_cons, q_runH_nil, q_runH_cons, tst, bltop, bindG, bindGs, cmpop, ofB, truthy, int1, int2, ltop, leop, binop, addop, subop, mulop, divop, modop, powop, ixop, items, litems, ditems, mkLst, mkDic, lenop, intop, isiop, tyOf, putop, src, wipeP, metop, metok, isLst, isDic, isStr, isLsq, isTp, appop, popL, getD, slop, revop, tupop, lstop, keyOf, inop, Aes.len, peq, scalP, eqF, isNon, isBl, augop, augix, f_is_name, subB, zl, HasC.eq (P := PG) (x := "MOST_NAME"), h1, h2, i1, i2]
      exact end_rt
  · have e : isNm x = false := by unfold isNm; rw [decide_eq_false (by omega)]; rfl
    rw [e]
    have i1 : ¬ (1 : Int) ≤ (x.length : Int) := by omega
    simp [body, q_ev_v, q_ev_non, q_ev_bl, q_ev_int, q_ev_str, q_ev_con, q_ev_tup, q_ev_lst, q_ev_bin, q_ev_neg, q_ev_not, q_ev_cmp, q_ev_chain, q_ev_and, q_ev_or, q_ev_ifx, q_ev_ix, q_ev_sl, q_ev_call, q_ev_blt, q_ev_isi, q_ev_met, q_ev_tupS, q_ev_lstS, q_ev_rev, q_ev_dnew, q_ev_dzip, q_ev_fnv, q_ev_calv, q_ev_comp2, q_ev_dcomp, q_ev_sls, q_ev_val, q_evs_nil, q_evs_cons, q_evs_star, q_evD_nil, q_evD_cons, q_evAnd_cons, q_evAnd_cons2, q_evOr_cons, q_evOr_cons2, q_evIfs_none, q_evIfs_some, q_evo_none, q_evo_some, q_evi_ex, q_run1_ex, q_run1_set, q_run1_put, q_run1_aug, q_run1_augs, q_run1_ite, q_run1_whl, q_run1_for, q_run1_ret, q_run1_retN, q_run1_rais, q_run1_try, q_run1_brk, q_run1_cnt, q_run1_pas, q_runs_nil, q_runs_cons, q_runH_nil, q_runH_cons, tst, bltop, bindG, bindGs, cmpop, ofB, truthy, int1, int2, ltop, leop, binop, addop, subop, mulop, divop, modop, powop, ixop, items, litems, ditems, mkLst, mkDic, lenop, intop, isiop, tyOf, putop, src, wipeP, metop, metok, isLst, isDic, isStr, isLsq, isTp, appop, popL, getD, slop, revop, tupop, lstop, keyOf, inop, Aes.len, peq, scalP, eqF, isNon, isBl, augop, augix, f_is_name, subB, zl, HasC.eq (P := PG) (x := "MOST_NAME"), h1, i1]
    exact end_rt
/-! rows in order -/
def ltS (x y : Str) : Bool := decide (x.cps.toList < y.cps.toList)
/-- a row of texts that ascends -/
def ascS (xs : List Str) : Bool := (List.range (xs.length - 1)).all fun k => ltS (xs.getD k "") (xs.getD (k + 1) "")
theorem atI_map {α β : Type} {f : α → β} {xs : List α} {i : Nat} (d : α) (h : i < xs.length) : atI (xs.map f) (i : Int) = some (f (xs.getD i d)) := by
  rw [atI_nat (by rw [List.length_map]; exact h), List.getElem_map, List.getD_eq_getElem?_getD, List.getElem?_eq_getElem h]
  rfl
theorem s_is_ascending {PG : Pg} [Has PG "is_ascending" f_is_ascending] {n : Nat} (hn : 1 ≤ n) (h : MH) {v : PV} (xs : List Str) (hv : items h v = some (xs.map .str)) (nd : ditems h v = none) (ns : isStr v = false) (hl : xs.length ≤ 1000000) : call PG n "is_ascending" [v] [] [] h = .ok (.bl (ascS xs)) h := by
  rw [call_ge (by omega) rfl]
  have el : ∀ i : Nat, i < xs.length → ixop v (.int i) h = .ok (.str (xs.getD i "")) h := fun i hi => by
    unfold ixop
    cases v <;> try (cases ns; done)
    all_goals (simp only [nd, hv]; rw [atI_map ("" : Str) hi])
  have en : lenop v h = .ok (.int xs.length) h := by
    unfold lenop
    cases v <;> try (cases ns; done)
    all_goals (simp only [hv, List.length_map])
  have ec : ev PG (call PG (n - 1)) c_is_ascending_1 [some v, none] h = .ok (.lst ((List.range (xs.length - 1)).map fun k => PV.bl (ltS (xs.getD k "") (xs.getD (k + 1) "")))) h := by
    have hr := rng1 (P := PG) (cl := call PG (n - 1)) (e := .bin .sub false (.blt .len false (.cons (.v 0) .nil)) (.int 1)) (ρ := [some v, none]) (h := h) (h' := h) (n := (xs.length : Int) - 1) (by simp [body, q_ev_v, q_ev_non, q_ev_bl, q_ev_int, q_ev_str, q_ev_con, q_ev_tup, q_ev_lst, q_ev_bin, q_ev_neg, q_ev_not, q_ev_cmp, q_ev_chain, q_ev_and, q_ev_or, q_ev_ifx, q_ev_ix, q_ev_sl, q_ev_call, q_ev_blt, q_ev_isi, q_ev_met, q_ev_tupS, q_ev_lstS, q_ev_rev, q_ev_dnew, q_ev_dzip, q_ev_fnv, q_ev_calv, q_ev_comp2, q_ev_dcomp, q_ev_sls, q_ev_val, q_evs_nil, q_evs_cons, q_evs_star, q_evD_nil, q_evD_cons, q_evAnd_cons, q_evAnd_cons2, q_evOr_cons, q_evOr_cons2, q_evIfs_none, q_evIfs_some, q_evo_none, q_evo_some, q_evi_ex, q_run1_ex, q_run1_set, q_run1_put, q_run1_aug, q_run1_augs, q_run1_ite, q_run1_whl, q_run1_for, q_run1_ret, q_run1_retN, q_run1_rais, q_run1_try, q_run1_brk, q_run1_cnt, q_run1_pas, q_runs_nil, q_runs_cons, q_runH_nil, q_runH_cons, tst, bltop, bindG, bindGs, cmpop, ofB, truthy, int1, int2, ltop, leop, binop, addop, subop, mulop, divop, modop, powop, ixop, items, litems, ditems, mkLst, mkDic, lenop, intop, isiop, tyOf, putop, src, wipeP, metop, metok, isLst, isDic, isStr, isLsq, isTp, appop, popL, getD, slop, revop, tupop, lstop, keyOf, inop, Aes.len, peq, scalP, eqF, isNon, isBl, augop, augix, -lenop, en]) (by omega)
    have e0 : ((xs.length : Int) - 1).toNat = xs.length - 1 := by omega
    rw [e0] at hr
    refine comp_mp (P := PG) (cl := call PG (n - 1)) (l := []) (g := fun (k : Nat) => PV.int (k : Int)) (xs := List.range (xs.length - 1)) (f := fun k => PV.bl (ltS (xs.getD k "") (xs.getD (k + 1) ""))) hr chk_nil (by rw [List.length_range]; exact small (by omega) (Nat.le_refl _)) (fun k hk => ?_) false
    have hk := List.mem_range.mp hk
    have e1 := el k (by omega)
    have e2 := el (k + 1) (by omega)
    have e3 : ((k : Int) + 1) = ((k + 1 : Nat) : Int) := by omega
    simp [body, q_ev_v, q_ev_non, q_ev_bl, q_ev_int, q_ev_str, q_ev_con, q_ev_tup, q_ev_lst, q_ev_bin, q_ev_neg, q_ev_not, q_ev_cmp, q_ev_chain, q_ev_and, q_ev_or, q_ev_ifx, q_ev_ix, q_ev_sl, q_ev_call, q_ev_blt, q_ev_isi, q_ev_met, q_ev_tupS, q_ev_lstS, q_ev_rev, q_ev_dnew, q_ev_dzip, q_ev_fnv, q_ev_calv, q_ev_comp2, q_ev_dcomp, q_ev_sls, q_ev_val, q_evs_nil, q_evs_cons, q_evs_star, q_evD_nil, q_evD_cons, q_evAnd_cons, q_evAnd_cons2, q_evOr_cons, q_evOr_cons2, q_evIfs_none, q_evIfs_some, q_evo_none, q_evo_some, q_evi_ex, q_run1_ex, q_run1_set, q_run1_put, q_run1_aug, q_run1_augs, q_run1_ite, q_run1_whl, q_run1_for, q_run1_ret, q_run1_retN, q_run1_rais, q_run1_try, q_run1_brk, q_run1_cnt, q_run1_pas, q_runs_nil, q_runs_cons, q_runH_nil, q_runH_cons, tst, bltop, bindG, bindGs, cmpop, ofB, truthy, int1, int2, ltop, leop, binop, addop, subop, mulop, divop, modop, powop, ixop, items, litems, ditems, mkLst, mkDic, lenop, intop, isiop, tyOf, putop, src, wipeP, metop, metok, isLst, isDic, isStr, isLsq, isTp, appop, popL, getD, slop, revop, tupop, lstop, keyOf, inop, Aes.len, peq, scalP, eqF, isNon, isBl, augop, augix, turnC, -ixop, e1, e3, e2, -Int.natCast_add, ltS]
  simp [body, q_ev_v, q_ev_non, q_ev_bl, q_ev_int, q_ev_str, q_ev_con, q_ev_tup, q_ev_lst, q_ev_bin, q_ev_neg, q_ev_not, q_ev_cmp, q_ev_chain, q_ev_and, q_ev_or, q_ev_ifx, q_ev_ix, q_ev_sl, q_ev_call, q_ev_blt, q_ev_isi, q_ev_met, q_ev_tupS, q_ev_lstS, q_ev_rev, q_ev_dnew, q_ev_dzip, q_ev_fnv, q_ev_calv, q_ev_comp2, q_ev_dcomp, q_ev_sls, q_ev_val, q_evs_nil, q_evs_cons, q_evs_star, q_evD_nil, q_evD_cons, q_evAnd_cons, q_evAnd_cons2, q_evOr_cons, q_evOr_cons2, q_evIfs_none, q_evIfs_some, q_evo_none, q_evo_some, q_evi_ex, q_run1_ex, q_run1_set, q_run1_put, q_run1_aug, q_run1_augs, q_run1_ite, q_run1_whl, q_run1_for, q_run1_ret, q_run1_retN, q_run1_rais, q_run1_try, q_run1_brk, q_run1_cnt, q_run1_pas, q_runs_nil, q_runs_cons, q_runH_nil, q_runH_cons, tst, bltop, bindG, bindGs, cmpop, ofB, truthy, int1, int2, ltop, leop, binop, addop, subop, mulop, divop, modop, powop, ixop, items, litems, ditems, mkLst, mkDic, lenop, intop, isiop, tyOf, putop, src, wipeP, metop, metok, isLst, isDic, isStr, isLsq, isTp, appop, popL, getD, slop, revop, tupop, lstop, keyOf, inop, Aes.len, peq, scalP, eqF, isNon, isBl, augop, augix, f_is_ascending, ec, boolsop, allB_map, all_id]
  exact end_rt
theorem ltS_trans {a b c : Str} (h1 : ltS a b = true) (h2 : ltS b c = true) : ltS a c = true := by
  unfold ltS at *
  exact decide_eq_true (List.lt_trans (of_decide_eq_true h1) (of_decide_eq_true h2))
theorem ltS_irrefl (a : Str) : ltS a a = false := decide_eq_false (List.lt_irrefl _)
theorem ascS_iff : ∀ {xs : List Str}, ascS xs = true ↔ xs.Pairwise fun a b => ltS a b = true
  | [] => by simp [ascS]
  | [a] => by simp [ascS]
  | a :: b :: xs => by
    have ih := ascS_iff (xs := b :: xs)
    have e : ascS (a :: b :: xs) = (ltS a b && ascS (b :: xs)) := by
      unfold ascS
      have : (a :: b :: xs).length - 1 = (b :: xs).length - 1 + 1 := by simp
      rw [this, List.range_succ_eq_map, List.all_cons, List.all_map]
      simp [Function.comp_def]
    rw [e, Bool.and_eq_true, ih, List.pairwise_cons (a := a) (l := b :: xs)]
    constructor
    · rintro ⟨h1, h2⟩
      refine ⟨fun c hc => ?_, h2⟩
      rcases List.mem_cons.mp hc with rfl | hc
      · exact h1
      · exact ltS_trans h1 ((List.pairwise_cons.mp h2).1 c hc)
    · rintro ⟨h1, h2⟩
      exact ⟨h1 b List.mem_cons_self, h2⟩
theorem ascS_nodup {xs : List Str} (h : ascS xs = true) : xs.Nodup := by
  have := ascS_iff.mp h
  refine this.imp fun h e => ?_
  subst e
  rw [ltS_irrefl] at h; cases h
end Mx.FB

end

section
set_option Elab.async false
set_option linter.all false
set_option maxRecDepth 100000
set_option maxHeartbeats 4000000
set_option exponentiation.threshold 20000
namespace Mx.FB
open PySem PySem.Spec PyProof.Rows L2 Mx

/-! comprehensions with two clauses -/
section
variable {α : Type} {P : Pg} {cl : Calls} {elt : Ae} {gt g2 : Ag} {it it2 : Ai} {own : List (Str × Nat)} {vs2 : List Nat} {ρ : Env'} {h : MH} {l : List (Nat × List PV)} {g : α → PV}
noncomputable abbrev turnA (P : Pg) (cl : Calls) (elt : Ae) (gt : Ag) (g2 : Ag) (it2 : Ai) (own : List (Str × Nat)) (vs2 : List Nat) (ρ : Env') (x : PV) (acc : List PV) (h : MH) : Res (List PV) := match bindG gt x (wipeP ρ (own.map (·.2))) h with
  | some ρ' => (evi P cl it2 ρ' h).bind fun s2 h => compL (fun x h => match bindG g2 x (wipeP ρ' vs2) h with
      | some ρ2 => (ev P cl elt ρ2 h).bind fun y h => .ok (some y) h
      | none => .stuck) s2.1 s2.2 acc h
  | none => .stuck
theorem compA_mp {body : PV → List PV → MH → Res (List PV)} (hc : chk l h) {f : α → List PV} : ∀ {xs : List α} {acc : List PV}, (∀ x ∈ xs, ∀ acc, body (g x) acc h = .ok (acc ++ f x) h) → compA body l (xs.map g) acc h = .ok (acc ++ (xs.map f).flatten) h
  | [], acc, _ => by
    rw [List.map_nil]
    unfold compA
    rw [if_pos hc]; simp
  | x :: xs, acc, hb => by
    rw [List.map_cons]
    unfold compA
    rw [if_pos hc, hb x List.mem_cons_self, Res.bind_ok, compA_mp hc fun y hy => hb y (List.mem_cons_of_mem _ hy)]
    simp
/-- a comprehension of two clauses whose turns change nothing -/
theorem comp2_mp {xs : List α} {f : α → List PV} (hi : evi P cl it ρ h = .ok (l, xs.map g) h) (hc : chk l h) (hl : ((xs.map f).flatten).length ≤ sizeLine) (hb : ∀ x ∈ xs, ∀ acc, turnA P cl elt gt g2 it2 own vs2 ρ (g x) acc h = .ok (acc ++ f x) h) (r : Bool) :
    ev P cl (.comp2 r elt gt it g2 it2 own vs2) ρ h = mkLst r ((xs.map f).flatten) h := by
  rw [q_ev_comp2, hi, Res.bind_ok, compA_mp hc (f := f) fun x hx acc => by
    show (turnA P cl elt gt g2 it2 own vs2 ρ (g x) acc h).nox = _
    rw [hb x hx acc]; rfl]
  rw [Res.bind_ok, List.nil_append, if_pos hl]
end
theorem cut1 {a b c d e : PV} : cutP [a, b, c, d, e] (some 1) none = [b, c, d, e] := rfl
theorem cut3 {a b c d e : PV} : cutP [a, b, c, d, e] (some 3) none = [d, e] := rfl
theorem ev02 {a b c d : PV} : everyP 0 2 [a, b, c, d] = [a, c] := by
  show (evry 0 2 4).filterMap _ = _
  rw [show evry 0 2 4 = [0, 2] from by decide]
  rfl
theorem ev12 {a b c d : PV} : everyP 1 2 [a, b, c, d] = [b, d] := by
  show (evry 1 2 4).filterMap _ = _
  rw [show evry 1 2 4 = [1, 3] from by decide]
  rfl
/-! rows of a screen, whole numbers -/
structure Rw where
  n : Str
  l : Int
  u : Int
  w : Int
  h : Int
def rwP (r : Rw) : PV := .tup [.str r.n, .int r.l, .int r.u, .int r.w, .int r.h]
def i1 (z : Int) : PV := .tup [.int z, .int 1]
def nr (r : Rw) : PV := .tup [.str r.n, i1 r.l, i1 r.u, i1 r.w, i1 r.h]
instance (z : Int) : Dt (i1 z) := inferInstanceAs (Dt (.tup [.int z, .int 1]))
instance (r : Rw) : Dt (rwP r) := inferInstanceAs (Dt (.tup [.str r.n, .int r.l, .int r.u, .int r.w, .int r.h]))
instance (r : Rw) : Dt (nr r) := inferInstanceAs (Dt (.tup [.str r.n, i1 r.l, i1 r.u, i1 r.w, i1 r.h]))
/-- sizes that the screens keep to -/
def Lit (z : Int) : Prop := z.natAbs < 2 ^ 40
theorem s_is_pair_int {PG : Pg} [Has PG "is_pair" f_is_pair] {n : Nat} (hn : 1 ≤ n) (h : MH) (z : Int) : call PG n "is_pair" [.int z] [] [] h = .ok (.bl false) h := by
  rw [call_ge hn rfl]
  simp [body, q_ev_v, q_ev_non, q_ev_bl, q_ev_int, q_ev_str, q_ev_con, q_ev_tup, q_ev_lst, q_ev_bin, q_ev_neg, q_ev_not, q_ev_cmp, q_ev_chain, q_ev_and, q_ev_or, q_ev_ifx, q_ev_ix, q_ev_sl, q_ev_call, q_ev_blt, q_ev_isi, q_ev_met, q_ev_tupS, q_ev_lstS, q_ev_rev, q_ev_dnew, q_ev_dzip, q_ev_fnv, q_ev_calv, q_ev_comp2, q_ev_dcomp, q_ev_sls, q_ev_val, q_evs_nil, q_evs_cons, q_evs_star, q_evD_nil, q_evD_cons, q_evAnd_cons, q_evAnd_cons2, q_evOr_cons, q_evOr_cons2, q_evIfs_none, q_evIfs_some, q_evo_none, q_evo_some, q_evi_ex, q_run1_ex, q_run1_set, q_run1_put, q_run1_aug, q_run1_augs, q_run1_ite, q_run1_whl, q_run1_for, q_run1_ret, q_run1_retN, q_run1_rais, q_run1_try, q_run1_brk, q_run1_cnt, q_run1_pas, q_runs_nil, q_runs_cons, q_runH_nil, q_runH_cons, tst, bltop, bindG, bindGs, cmpop, ofB, truthy, int1, int2, ltop, leop, binop, addop, subop, mulop, divop, modop, powop, ixop, items, litems, ditems, mkLst, mkDic, lenop, intop, isiop, tyOf, putop, src, wipeP, metop, metok, isLst, isDic, isStr, isLsq, isTp, appop, popL, getD, slop, revop, tupop, lstop, keyOf, inop, Aes.len, peq, scalP, eqF, isNon, isBl, augop, augix, f_is_pair, subB]
  exact end_rt
theorem s_is_number_int {PG : Pg} [Has PG "is_number" f_is_number] [Has PG "is_integer" f_is_integer] [Has PG "is_pair" f_is_pair] [Has PG "lowest" f_lowest] {n : Nat} (hn : 2 ≤ n) (h : MH) (z : Int) : call PG n "is_number" [.int z] [] [] h = .ok (.bl false) h := by
  rw [call_ge (by omega) rfl]
  have e1 := s_is_pair_int (PG := PG) (n := n - 1) (by omega) h z
  simp [body, q_ev_v, q_ev_non, q_ev_bl, q_ev_int, q_ev_str, q_ev_con, q_ev_tup, q_ev_lst, q_ev_bin, q_ev_neg, q_ev_not, q_ev_cmp, q_ev_chain, q_ev_and, q_ev_or, q_ev_ifx, q_ev_ix, q_ev_sl, q_ev_call, q_ev_blt, q_ev_isi, q_ev_met, q_ev_tupS, q_ev_lstS, q_ev_rev, q_ev_dnew, q_ev_dzip, q_ev_fnv, q_ev_calv, q_ev_comp2, q_ev_dcomp, q_ev_sls, q_ev_val, q_evs_nil, q_evs_cons, q_evs_star, q_evD_nil, q_evD_cons, q_evAnd_cons, q_evAnd_cons2, q_evOr_cons, q_evOr_cons2, q_evIfs_none, q_evIfs_some, q_evo_none, q_evo_some, q_evi_ex, q_run1_ex, q_run1_set, q_run1_put, q_run1_aug, q_run1_augs, q_run1_ite, q_run1_whl, q_run1_for, q_run1_ret, q_run1_retN, q_run1_rais, q_run1_try, q_run1_brk, q_run1_cnt, q_run1_pas, q_runs_nil, q_runs_cons, q_runH_nil, q_runH_cons, tst, bltop, bindG, bindGs, cmpop, ofB, truthy, int1, int2, ltop, leop, binop, addop, subop, mulop, divop, modop, powop, ixop, items, litems, ditems, mkLst, mkDic, lenop, intop, isiop, tyOf, putop, src, wipeP, metop, metok, isLst, isDic, isStr, isLsq, isTp, appop, popL, getD, slop, revop, tupop, lstop, keyOf, inop, Aes.len, peq, scalP, eqF, isNon, isBl, augop, augix, f_is_number, e1]
  exact end_rt
theorem s_is_row_num {PG : Pg} [Has PG "is_row" f_is_row] [Has PG "is_name" f_is_name] [Has PG "is_number" f_is_number] [Has PG "is_integer" f_is_integer] [Has PG "is_pair" f_is_pair] [Has PG "lowest" f_lowest] [HasC PG "LETTERS" (.str "abcdefghijklmnopqrstuvwxyz")] [HasC PG "MOST_NAME" (.int 8)] {n : Nat} (hn : 3 ≤ n) (h : MH) (r : Rw) (hm : isNm r.n = true) (hl : r.n.length ≤ 8) : call PG n "is_row" [rwP r, .fn "is_number"] [] [] h = .ok (.bl false) h := by
  rw [call_ge (by omega) rfl]
  have e1 := s_is_name (PG := PG) (n := n - 1) (by omega) h r.n (by omega)
  rw [hm] at e1
  have ec : ev PG (call PG (n - 1)) c_is_row_1 [some (rwP r), some (.fn "is_number"), none] h = .ok (.lst [.bl false, .bl false, .bl false, .bl false]) h := by
    have := comp_mp (P := PG) (cl := call PG (n - 1)) (elt := (.calv 1 (.cons (.v 2) .nil))) (gt := (.nm 2)) (it := (.ex (.sl false (.v 0) (.some (.int 1)) .none))) (ifs := .none) (own := [("one", 2)]) (ρ := [some (rwP r), some (.fn "is_number"), none]) (h := h) (h' := h) (l := []) (g := fun z : Int => PV.int z) (xs := [r.l, r.u, r.w, r.h]) (f := fun _ => PV.bl false)
      (by simp [body, q_ev_v, q_ev_non, q_ev_bl, q_ev_int, q_ev_str, q_ev_con, q_ev_tup, q_ev_lst, q_ev_bin, q_ev_neg, q_ev_not, q_ev_cmp, q_ev_chain, q_ev_and, q_ev_or, q_ev_ifx, q_ev_ix, q_ev_sl, q_ev_call, q_ev_blt, q_ev_isi, q_ev_met, q_ev_tupS, q_ev_lstS, q_ev_rev, q_ev_dnew, q_ev_dzip, q_ev_fnv, q_ev_calv, q_ev_comp2, q_ev_dcomp, q_ev_sls, q_ev_val, q_evs_nil, q_evs_cons, q_evs_star, q_evD_nil, q_evD_cons, q_evAnd_cons, q_evAnd_cons2, q_evOr_cons, q_evOr_cons2, q_evIfs_none, q_evIfs_some, q_evo_none, q_evo_some, q_evi_ex, q_run1_ex, q_run1_set, q_run1_put, q_run1_aug, q_run1_augs, q_run1_ite, q_run1_whl, q_run1_for, q_run1_ret, q_run1_retN, q_run1_rais, q_run1_try, q_run1_brk, q_run1_cnt, q_run1_pas, q_runs_nil, q_runs_cons, q_runH_nil, q_runH_cons, tst, bltop, bindG, bindGs, cmpop, ofB, truthy, int1, int2, ltop, leop, binop, addop, subop, mulop, divop, modop, powop, ixop, items, litems, ditems, mkLst, mkDic, lenop, intop, isiop, tyOf, putop, src, wipeP, metop, metok, isLst, isDic, isStr, isLsq, isTp, appop, popL, getD, slop, revop, tupop, lstop, keyOf, inop, Aes.len, peq, scalP, eqF, isNon, isBl, augop, augix, rwP, cut1]) chk_nil (by rw [sizeLine_eq]; simp) (fun z hz => by
        have e2 := s_is_number_int (PG := PG) (n := n - 1) (by omega) h z
        simp [body, q_ev_v, q_ev_non, q_ev_bl, q_ev_int, q_ev_str, q_ev_con, q_ev_tup, q_ev_lst, q_ev_bin, q_ev_neg, q_ev_not, q_ev_cmp, q_ev_chain, q_ev_and, q_ev_or, q_ev_ifx, q_ev_ix, q_ev_sl, q_ev_call, q_ev_blt, q_ev_isi, q_ev_met, q_ev_tupS, q_ev_lstS, q_ev_rev, q_ev_dnew, q_ev_dzip, q_ev_fnv, q_ev_calv, q_ev_comp2, q_ev_dcomp, q_ev_sls, q_ev_val, q_evs_nil, q_evs_cons, q_evs_star, q_evD_nil, q_evD_cons, q_evAnd_cons, q_evAnd_cons2, q_evOr_cons, q_evOr_cons2, q_evIfs_none, q_evIfs_some, q_evo_none, q_evo_some, q_evi_ex, q_run1_ex, q_run1_set, q_run1_put, q_run1_aug, q_run1_augs, q_run1_ite, q_run1_whl, q_run1_for, q_run1_ret, q_run1_retN, q_run1_rais, q_run1_try, q_run1_brk, q_run1_cnt, q_run1_pas, q_runs_nil, q_runs_cons, q_runH_nil, q_runH_cons, tst, bltop, bindG, bindGs, cmpop, ofB, truthy, int1, int2, ltop, leop, binop, addop, subop, mulop, divop, modop, powop, ixop, items, litems, ditems, mkLst, mkDic, lenop, intop, isiop, tyOf, putop, src, wipeP, metop, metok, isLst, isDic, isStr, isLsq, isTp, appop, popL, getD, slop, revop, tupop, lstop, keyOf, inop, Aes.len, peq, scalP, eqF, isNon, isBl, augop, augix, turnC, Has.eq (P := PG) (f := "is_number"), e2]) false
    exact this
  simp [body, q_ev_v, q_ev_non, q_ev_bl, q_ev_int, q_ev_str, q_ev_con, q_ev_tup, q_ev_lst, q_ev_bin, q_ev_neg, q_ev_not, q_ev_cmp, q_ev_chain, q_ev_and, q_ev_or, q_ev_ifx, q_ev_ix, q_ev_sl, q_ev_call, q_ev_blt, q_ev_isi, q_ev_met, q_ev_tupS, q_ev_lstS, q_ev_rev, q_ev_dnew, q_ev_dzip, q_ev_fnv, q_ev_calv, q_ev_comp2, q_ev_dcomp, q_ev_sls, q_ev_val, q_evs_nil, q_evs_cons, q_evs_star, q_evD_nil, q_evD_cons, q_evAnd_cons, q_evAnd_cons2, q_evOr_cons, q_evOr_cons2, q_evIfs_none, q_evIfs_some, q_evo_none, q_evo_some, q_evi_ex, q_run1_ex, q_run1_set, q_run1_put, q_run1_aug, q_run1_augs, q_run1_ite, q_run1_whl, q_run1_for, q_run1_ret, q_run1_retN, q_run1_rais, q_run1_try, q_run1_brk, q_run1_cnt, q_run1_pas, q_runs_nil, q_runs_cons, q_runH_nil, q_runH_cons, tst, bltop, bindG, bindGs, cmpop, ofB, truthy, int1, int2, ltop, leop, binop, addop, subop, mulop, divop, modop, powop, ixop, items, litems, ditems, mkLst, mkDic, lenop, intop, isiop, tyOf, putop, src, wipeP, metop, metok, isLst, isDic, isStr, isLsq, isTp, appop, popL, getD, slop, revop, tupop, lstop, keyOf, inop, Aes.len, peq, scalP, eqF, isNon, isBl, augop, augix, f_is_row, rwP, subB, e1] 
  simp only [rwP] at ec
  simp [body, q_ev_v, q_ev_non, q_ev_bl, q_ev_int, q_ev_str, q_ev_con, q_ev_tup, q_ev_lst, q_ev_bin, q_ev_neg, q_ev_not, q_ev_cmp, q_ev_chain, q_ev_and, q_ev_or, q_ev_ifx, q_ev_ix, q_ev_sl, q_ev_call, q_ev_blt, q_ev_isi, q_ev_met, q_ev_tupS, q_ev_lstS, q_ev_rev, q_ev_dnew, q_ev_dzip, q_ev_fnv, q_ev_calv, q_ev_comp2, q_ev_dcomp, q_ev_sls, q_ev_val, q_evs_nil, q_evs_cons, q_evs_star, q_evD_nil, q_evD_cons, q_evAnd_cons, q_evAnd_cons2, q_evOr_cons, q_evOr_cons2, q_evIfs_none, q_evIfs_some, q_evo_none, q_evo_some, q_evi_ex, q_run1_ex, q_run1_set, q_run1_put, q_run1_aug, q_run1_augs, q_run1_ite, q_run1_whl, q_run1_for, q_run1_ret, q_run1_retN, q_run1_rais, q_run1_try, q_run1_brk, q_run1_cnt, q_run1_pas, q_runs_nil, q_runs_cons, q_runH_nil, q_runH_cons, tst, bltop, bindG, bindGs, cmpop, ofB, truthy, int1, int2, ltop, leop, binop, addop, subop, mulop, divop, modop, powop, ixop, items, litems, ditems, mkLst, mkDic, lenop, intop, isiop, tyOf, putop, src, wipeP, metop, metok, isLst, isDic, isStr, isLsq, isTp, appop, popL, getD, slop, revop, tupop, lstop, keyOf, inop, Aes.len, peq, scalP, eqF, isNon, isBl, augop, augix, ec, boolsop, allB]
  exact end_rt
theorem s_is_row_int {PG : Pg} [Has PG "is_row" f_is_row] [Has PG "is_name" f_is_name] [Has PG "is_integer" f_is_integer] [HasC PG "LETTERS" (.str "abcdefghijklmnopqrstuvwxyz")] [HasC PG "MOST_NAME" (.int 8)] {n : Nat} (hn : 3 ≤ n) (h : MH) (r : Rw) (hm : isNm r.n = true) (hl : r.n.length ≤ 8) : call PG n "is_row" [rwP r, .fn "is_integer"] [] [] h = .ok (.bl true) h := by
  rw [call_ge (by omega) rfl]
  have e1 := s_is_name (PG := PG) (n := n - 1) (by omega) h r.n (by omega)
  rw [hm] at e1
  have ec : ev PG (call PG (n - 1)) c_is_row_1 [some (rwP r), some (.fn "is_integer"), none] h = .ok (.lst [.bl true, .bl true, .bl true, .bl true]) h := by
    have := comp_mp (P := PG) (cl := call PG (n - 1)) (elt := (.calv 1 (.cons (.v 2) .nil))) (gt := (.nm 2)) (it := (.ex (.sl false (.v 0) (.some (.int 1)) .none))) (ifs := .none) (own := [("one", 2)]) (ρ := [some (rwP r), some (.fn "is_integer"), none]) (h := h) (h' := h) (l := []) (g := fun z : Int => PV.int z) (xs := [r.l, r.u, r.w, r.h]) (f := fun _ => PV.bl true)
      (by simp [body, q_ev_v, q_ev_non, q_ev_bl, q_ev_int, q_ev_str, q_ev_con, q_ev_tup, q_ev_lst, q_ev_bin, q_ev_neg, q_ev_not, q_ev_cmp, q_ev_chain, q_ev_and, q_ev_or, q_ev_ifx, q_ev_ix, q_ev_sl, q_ev_call, q_ev_blt, q_ev_isi, q_ev_met, q_ev_tupS, q_ev_lstS, q_ev_rev, q_ev_dnew, q_ev_dzip, q_ev_fnv, q_ev_calv, q_ev_comp2, q_ev_dcomp, q_ev_sls, q_ev_val, q_evs_nil, q_evs_cons, q_evs_star, q_evD_nil, q_evD_cons, q_evAnd_cons, q_evAnd_cons2, q_evOr_cons, q_evOr_cons2, q_evIfs_none, q_evIfs_some, q_evo_none, q_evo_some, q_evi_ex, q_run1_ex, q_run1_set, q_run1_put, q_run1_aug, q_run1_augs, q_run1_ite, q_run1_whl, q_run1_for, q_run1_ret, q_run1_retN, q_run1_rais, q_run1_try, q_run1_brk, q_run1_cnt, q_run1_pas, q_runs_nil, q_runs_cons, q_runH_nil, q_runH_cons, tst, bltop, bindG, bindGs, cmpop, ofB, truthy, int1, int2, ltop, leop, binop, addop, subop, mulop, divop, modop, powop, ixop, items, litems, ditems, mkLst, mkDic, lenop, intop, isiop, tyOf, putop, src, wipeP, metop, metok, isLst, isDic, isStr, isLsq, isTp, appop, popL, getD, slop, revop, tupop, lstop, keyOf, inop, Aes.len, peq, scalP, eqF, isNon, isBl, augop, augix, rwP, cut1]) chk_nil (by rw [sizeLine_eq]; simp) (fun z hz => by
        have e2 := s_is_integer (PG := PG) (n := n - 1) (by omega) h z
        simp [body, q_ev_v, q_ev_non, q_ev_bl, q_ev_int, q_ev_str, q_ev_con, q_ev_tup, q_ev_lst, q_ev_bin, q_ev_neg, q_ev_not, q_ev_cmp, q_ev_chain, q_ev_and, q_ev_or, q_ev_ifx, q_ev_ix, q_ev_sl, q_ev_call, q_ev_blt, q_ev_isi, q_ev_met, q_ev_tupS, q_ev_lstS, q_ev_rev, q_ev_dnew, q_ev_dzip, q_ev_fnv, q_ev_calv, q_ev_comp2, q_ev_dcomp, q_ev_sls, q_ev_val, q_evs_nil, q_evs_cons, q_evs_star, q_evD_nil, q_evD_cons, q_evAnd_cons, q_evAnd_cons2, q_evOr_cons, q_evOr_cons2, q_evIfs_none, q_evIfs_some, q_evo_none, q_evo_some, q_evi_ex, q_run1_ex, q_run1_set, q_run1_put, q_run1_aug, q_run1_augs, q_run1_ite, q_run1_whl, q_run1_for, q_run1_ret, q_run1_retN, q_run1_rais, q_run1_try, q_run1_brk, q_run1_cnt, q_run1_pas, q_runs_nil, q_runs_cons, q_runH_nil, q_runH_cons, tst, bltop, bindG, bindGs, cmpop, ofB, truthy, int1, int2, ltop, leop, binop, addop, subop, mulop, divop, modop, powop, ixop, items, litems, ditems, mkLst, mkDic, lenop, intop, isiop, tyOf, putop, src, wipeP, metop, metok, isLst, isDic, isStr, isLsq, isTp, appop, popL, getD, slop, revop, tupop, lstop, keyOf, inop, Aes.len, peq, scalP, eqF, isNon, isBl, augop, augix, turnC, Has.eq (P := PG) (f := "is_integer"), e2]) false
    exact this
  simp only [rwP] at ec
  simp [body, q_ev_v, q_ev_non, q_ev_bl, q_ev_int, q_ev_str, q_ev_con, q_ev_tup, q_ev_lst, q_ev_bin, q_ev_neg, q_ev_not, q_ev_cmp, q_ev_chain, q_ev_and, q_ev_or, q_ev_ifx, q_ev_ix, q_ev_sl, q_ev_call, q_ev_blt, q_ev_isi, q_ev_met, q_ev_tupS, q_ev_lstS, q_ev_rev, q_ev_dnew, q_ev_dzip, q_ev_fnv, q_ev_calv, q_ev_comp2, q_ev_dcomp, q_ev_sls, q_ev_val, q_evs_nil, q_evs_cons, q_evs_star, q_evD_nil, q_evD_cons, q_evAnd_cons, q_evAnd_cons2, q_evOr_cons, q_evOr_cons2, q_evIfs_none, q_evIfs_some, q_evo_none, q_evo_some, q_evi_ex, q_run1_ex, q_run1_set, q_run1_put, q_run1_aug, q_run1_augs, q_run1_ite, q_run1_whl, q_run1_for, q_run1_ret, q_run1_retN, q_run1_rais, q_run1_try, q_run1_brk, q_run1_cnt, q_run1_pas, q_runs_nil, q_runs_cons, q_runH_nil, q_runH_cons, tst, bltop, bindG, bindGs, cmpop, ofB, truthy, int1, int2, ltop, leop, binop, addop, subop, mulop, divop, modop, powop, ixop, items, litems, ditems, mkLst, mkDic, lenop, intop, isiop, tyOf, putop, src, wipeP, metop, metok, isLst, isDic, isStr, isLsq, isTp, appop, popL, getD, slop, revop, tupop, lstop, keyOf, inop, Aes.len, peq, scalP, eqF, isNon, isBl, augop, augix, f_is_row, rwP, subB, e1, ec, boolsop, allB]
  exact end_rt
theorem s_as_number {PG : Pg} [Has PG "as_number" f_as_number] [Has PG "is_integer" f_is_integer] {n : Nat} (hn : 2 ≤ n) (h : MH) (z : Int) : call PG n "as_number" [.int z] [] [] h = .ok (i1 z) h := by
  rw [call_ge (by omega) rfl]
  have e1 := s_is_integer (PG := PG) (n := n - 1) (by omega) h z
  simp [body, q_ev_v, q_ev_non, q_ev_bl, q_ev_int, q_ev_str, q_ev_con, q_ev_tup, q_ev_lst, q_ev_bin, q_ev_neg, q_ev_not, q_ev_cmp, q_ev_chain, q_ev_and, q_ev_or, q_ev_ifx, q_ev_ix, q_ev_sl, q_ev_call, q_ev_blt, q_ev_isi, q_ev_met, q_ev_tupS, q_ev_lstS, q_ev_rev, q_ev_dnew, q_ev_dzip, q_ev_fnv, q_ev_calv, q_ev_comp2, q_ev_dcomp, q_ev_sls, q_ev_val, q_evs_nil, q_evs_cons, q_evs_star, q_evD_nil, q_evD_cons, q_evAnd_cons, q_evAnd_cons2, q_evOr_cons, q_evOr_cons2, q_evIfs_none, q_evIfs_some, q_evo_none, q_evo_some, q_evi_ex, q_run1_ex, q_run1_set, q_run1_put, q_run1_aug, q_run1_augs, q_run1_ite, q_run1_whl, q_run1_for, q_run1_ret, q_run1_retN, q_run1_rais, q_run1_try, q_run1_brk, q_run1_cnt, q_run1_pas, q_runs_nil, q_runs_cons, q_runH_nil, q_runH_cons, tst, bltop, bindG, bindGs, cmpop, ofB, truthy, int1, int2, ltop, leop, binop, addop, subop, mulop, divop, modop, powop, ixop, items, litems, ditems, mkLst, mkDic, lenop, intop, isiop, tyOf, putop, src, wipeP, metop, metok, isLst, isDic, isStr, isLsq, isTp, appop, popL, getD, slop, revop, tupop, lstop, keyOf, inop, Aes.len, peq, scalP, eqF, isNon, isBl, augop, augix, f_as_number, e1]
  exact end_rt
/-- a screen that is right -/
structure Scr (rs : List Rw) : Prop where
  ne : rs ≠ []
  len : rs.length ≤ 10
  nm : ∀ r ∈ rs, isNm r.n = true ∧ r.n.length ≤ 8
  asc : ascS (rs.map (·.n)) = true
  w : ∀ r ∈ rs, 0 ≤ r.w ∧ 0 ≤ r.h
  lit : ∀ r ∈ rs, Lit r.l ∧ Lit r.u ∧ Lit r.w ∧ Lit r.h
  sm : ∀ r ∈ rs, (r.l.natAbs < 1000000 ∧ r.u.natAbs < 1000000) ∧ r.w.natAbs < 1000000 ∧ r.h.natAbs < 1000000
theorem all_f {rs : List Rw} (h : rs ≠ []) : (rs.map fun _ => false).all id = false := by
  cases rs with
  | nil => exact absurd rfl h
  | cons a rs => rfl
theorem all_t {rs : List Rw} : (rs.map fun _ => true).all id = true := by
  induction rs with
  | nil => rfl
  | cons a rs ih => simp
theorem any2 : ∀ {rs : List Rw}, ∃ bs, allB ((rs.map fun _ => [PV.bl false, PV.bl false]).flatten) = some bs ∧ bs.any id = false
  | [] => ⟨[], rfl, rfl⟩
  | a :: rs => by
    obtain ⟨bs, h1, h2⟩ := any2 (rs := rs)
    refine ⟨false :: false :: bs, ?_, by simpa using h2⟩
    simp [allB, h1]
theorem flat2 {rs : List Rw} {a b : PV} : ((rs.map fun _ => [a, b]).flatten).length = 2 * rs.length := by
  induction rs with
  | nil => rfl
  | cons x rs ih => simp at ih ⊢; omega
theorem s_numbered {PG : Pg} [Has PG "numbered" f_numbered] [Has PG "is_integer" f_is_integer] [Has PG "is_ascending" f_is_ascending] [Has PG "is_number" f_is_number] [Has PG "is_pair" f_is_pair] [Has PG "lowest" f_lowest] [Has PG "is_row" f_is_row] [Has PG "is_name" f_is_name] [Has PG "as_number" f_as_number] [HasC PG "LETTERS" (.str "abcdefghijklmnopqrstuvwxyz")] [HasC PG "MOST_NAME" (.int 8)] {n : Nat} (hn : 4 ≤ n) (h : MH) {rs : List Rw} (s : Scr rs) : call PG n "numbered" [.tup (rs.map rwP)] [] [] h = .ok (.lst (rs.map nr)) h := by
  rw [call_ge (by omega) rfl]
  have l10 := s.len
  have sl : rs.length ≤ sizeLine := small (b := 10) l10 (by decide)
  have ec1 : ev PG (call PG (n - 1)) c_numbered_1 [some (.tup (rs.map rwP)), none, none, none, none] h = .ok (.lst (rs.map fun r => PV.bl ((fun _ => false) r))) h := by
    have := comp_mp (P := PG) (cl := call PG (n - 1)) (elt := (.call "is_row" (.cons (.v 1) (.cons (.fnv "is_number") .nil)) [] .nil)) (gt := (.nm 1)) (it := (.ex (.v 0))) (ifs := .none) (own := [("row", 1)]) (ρ := [some (.tup (rs.map rwP)), none, none, none, none]) (h := h) (h' := h) (l := []) (g := rwP) (xs := rs) (f := fun _ => PV.bl false)
      (by simp [body, q_ev_v, q_ev_non, q_ev_bl, q_ev_int, q_ev_str, q_ev_con, q_ev_tup, q_ev_lst, q_ev_bin, q_ev_neg, q_ev_not, q_ev_cmp, q_ev_chain, q_ev_and, q_ev_or, q_ev_ifx, q_ev_ix, q_ev_sl, q_ev_call, q_ev_blt, q_ev_isi, q_ev_met, q_ev_tupS, q_ev_lstS, q_ev_rev, q_ev_dnew, q_ev_dzip, q_ev_fnv, q_ev_calv, q_ev_comp2, q_ev_dcomp, q_ev_sls, q_ev_val, q_evs_nil, q_evs_cons, q_evs_star, q_evD_nil, q_evD_cons, q_evAnd_cons, q_evAnd_cons2, q_evOr_cons, q_evOr_cons2, q_evIfs_none, q_evIfs_some, q_evo_none, q_evo_some, q_evi_ex, q_run1_ex, q_run1_set, q_run1_put, q_run1_aug, q_run1_augs, q_run1_ite, q_run1_whl, q_run1_for, q_run1_ret, q_run1_retN, q_run1_rais, q_run1_try, q_run1_brk, q_run1_cnt, q_run1_pas, q_runs_nil, q_runs_cons, q_runH_nil, q_runH_cons, tst, bltop, bindG, bindGs, cmpop, ofB, truthy, int1, int2, ltop, leop, binop, addop, subop, mulop, divop, modop, powop, ixop, items, litems, ditems, mkLst, mkDic, lenop, intop, isiop, tyOf, putop, src, wipeP, metop, metok, isLst, isDic, isStr, isLsq, isTp, appop, popL, getD, slop, revop, tupop, lstop, keyOf, inop, Aes.len, peq, scalP, eqF, isNon, isBl, augop, augix]) chk_nil sl (fun r hr => by
        have e2 := s_is_row_num (PG := PG) (n := n - 1) (by omega) h r (s.nm r hr).1 (s.nm r hr).2
        simp [body, q_ev_v, q_ev_non, q_ev_bl, q_ev_int, q_ev_str, q_ev_con, q_ev_tup, q_ev_lst, q_ev_bin, q_ev_neg, q_ev_not, q_ev_cmp, q_ev_chain, q_ev_and, q_ev_or, q_ev_ifx, q_ev_ix, q_ev_sl, q_ev_call, q_ev_blt, q_ev_isi, q_ev_met, q_ev_tupS, q_ev_lstS, q_ev_rev, q_ev_dnew, q_ev_dzip, q_ev_fnv, q_ev_calv, q_ev_comp2, q_ev_dcomp, q_ev_sls, q_ev_val, q_evs_nil, q_evs_cons, q_evs_star, q_evD_nil, q_evD_cons, q_evAnd_cons, q_evAnd_cons2, q_evOr_cons, q_evOr_cons2, q_evIfs_none, q_evIfs_some, q_evo_none, q_evo_some, q_evi_ex, q_run1_ex, q_run1_set, q_run1_put, q_run1_aug, q_run1_augs, q_run1_ite, q_run1_whl, q_run1_for, q_run1_ret, q_run1_retN, q_run1_rais, q_run1_try, q_run1_brk, q_run1_cnt, q_run1_pas, q_runs_nil, q_runs_cons, q_runH_nil, q_runH_cons, tst, bltop, bindG, bindGs, cmpop, ofB, truthy, int1, int2, ltop, leop, binop, addop, subop, mulop, divop, modop, powop, ixop, items, litems, ditems, mkLst, mkDic, lenop, intop, isiop, tyOf, putop, src, wipeP, metop, metok, isLst, isDic, isStr, isLsq, isTp, appop, popL, getD, slop, revop, tupop, lstop, keyOf, inop, Aes.len, peq, scalP, eqF, isNon, isBl, augop, augix, turnC, Has.eq (P := PG) (f := "is_number"), e2]) false
    exact this
  have ec2 : ev PG (call PG (n - 1)) c_numbered_2 [some (.tup (rs.map rwP)), none, none, none, none] h = .ok (.lst (rs.map fun r => PV.bl ((fun _ => true) r))) h := by
    have := comp_mp (P := PG) (cl := call PG (n - 1)) (elt := (.call "is_row" (.cons (.v 1) (.cons (.fnv "is_integer") .nil)) [] .nil)) (gt := (.nm 1)) (it := (.ex (.v 0))) (ifs := .none) (own := [("row", 1)]) (ρ := [some (.tup (rs.map rwP)), none, none, none, none]) (h := h) (h' := h) (l := []) (g := rwP) (xs := rs) (f := fun _ => PV.bl true)
      (by simp [body, q_ev_v, q_ev_non, q_ev_bl, q_ev_int, q_ev_str, q_ev_con, q_ev_tup, q_ev_lst, q_ev_bin, q_ev_neg, q_ev_not, q_ev_cmp, q_ev_chain, q_ev_and, q_ev_or, q_ev_ifx, q_ev_ix, q_ev_sl, q_ev_call, q_ev_blt, q_ev_isi, q_ev_met, q_ev_tupS, q_ev_lstS, q_ev_rev, q_ev_dnew, q_ev_dzip, q_ev_fnv, q_ev_calv, q_ev_comp2, q_ev_dcomp, q_ev_sls, q_ev_val, q_evs_nil, q_evs_cons, q_evs_star, q_evD_nil, q_evD_cons, q_evAnd_cons, q_evAnd_cons2, q_evOr_cons, q_evOr_cons2, q_evIfs_none, q_evIfs_some, q_evo_none, q_evo_some, q_evi_ex, q_run1_ex, q_run1_set, q_run1_put, q_run1_aug, q_run1_augs, q_run1_ite, q_run1_whl, q_run1_for, q_run1_ret, q_run1_retN, q_run1_rais, q_run1_try, q_run1_brk, q_run1_cnt, q_run1_pas, q_runs_nil, q_runs_cons, q_runH_nil, q_runH_cons, tst, bltop, bindG, bindGs, cmpop, ofB, truthy, int1, int2, ltop, leop, binop, addop, subop, mulop, divop, modop, powop, ixop, items, litems, ditems, mkLst, mkDic, lenop, intop, isiop, tyOf, putop, src, wipeP, metop, metok, isLst, isDic, isStr, isLsq, isTp, appop, popL, getD, slop, revop, tupop, lstop, keyOf, inop, Aes.len, peq, scalP, eqF, isNon, isBl, augop, augix]) chk_nil sl (fun r hr => by
        have e2 := s_is_row_int (PG := PG) (n := n - 1) (by omega) h r (s.nm r hr).1 (s.nm r hr).2
        simp [body, q_ev_v, q_ev_non, q_ev_bl, q_ev_int, q_ev_str, q_ev_con, q_ev_tup, q_ev_lst, q_ev_bin, q_ev_neg, q_ev_not, q_ev_cmp, q_ev_chain, q_ev_and, q_ev_or, q_ev_ifx, q_ev_ix, q_ev_sl, q_ev_call, q_ev_blt, q_ev_isi, q_ev_met, q_ev_tupS, q_ev_lstS, q_ev_rev, q_ev_dnew, q_ev_dzip, q_ev_fnv, q_ev_calv, q_ev_comp2, q_ev_dcomp, q_ev_sls, q_ev_val, q_evs_nil, q_evs_cons, q_evs_star, q_evD_nil, q_evD_cons, q_evAnd_cons, q_evAnd_cons2, q_evOr_cons, q_evOr_cons2, q_evIfs_none, q_evIfs_some, q_evo_none, q_evo_some, q_evi_ex, q_run1_ex, q_run1_set, q_run1_put, q_run1_aug, q_run1_augs, q_run1_ite, q_run1_whl, q_run1_for, q_run1_ret, q_run1_retN, q_run1_rais, q_run1_try, q_run1_brk, q_run1_cnt, q_run1_pas, q_runs_nil, q_runs_cons, q_runH_nil, q_runH_cons, tst, bltop, bindG, bindGs, cmpop, ofB, truthy, int1, int2, ltop, leop, binop, addop, subop, mulop, divop, modop, powop, ixop, items, litems, ditems, mkLst, mkDic, lenop, intop, isiop, tyOf, putop, src, wipeP, metop, metok, isLst, isDic, isStr, isLsq, isTp, appop, popL, getD, slop, revop, tupop, lstop, keyOf, inop, Aes.len, peq, scalP, eqF, isNon, isBl, augop, augix, turnC, Has.eq (P := PG) (f := "is_integer"), e2]) false
    exact this
  have b1 : allB (rs.map fun r => PV.bl ((fun _ => false) r)) = some (rs.map fun _ => false) := allB_map
  have b2 : allB (rs.map fun r => PV.bl ((fun _ => true) r)) = some (rs.map fun _ => true) := allB_map
  have a1 := all_f s.ne
  have a2 := all_t (rs := rs)
  have ec3 : ∀ r ∈ rs, ev PG (call PG (n - 1)) c_numbered_3 [some (.tup (rs.map rwP)), some (rwP r), none, none, none] h = .ok (.lst [i1 r.l, i1 r.u, i1 r.w, i1 r.h]) h := fun r hr => by
    have := comp_mp (P := PG) (cl := call PG (n - 1)) (elt := (.call "as_number" (.cons (.v 3) .nil) [] .nil)) (gt := (.nm 3)) (it := (.ex (.sl false (.v 1) (.some (.int 1)) .none))) (ifs := .none) (own := [("one", 3)]) (ρ := [some (.tup (rs.map rwP)), some (rwP r), none, none, none]) (h := h) (h' := h) (l := []) (g := fun z : Int => PV.int z) (xs := [r.l, r.u, r.w, r.h]) (f := i1)
      (by simp [body, q_ev_v, q_ev_non, q_ev_bl, q_ev_int, q_ev_str, q_ev_con, q_ev_tup, q_ev_lst, q_ev_bin, q_ev_neg, q_ev_not, q_ev_cmp, q_ev_chain, q_ev_and, q_ev_or, q_ev_ifx, q_ev_ix, q_ev_sl, q_ev_call, q_ev_blt, q_ev_isi, q_ev_met, q_ev_tupS, q_ev_lstS, q_ev_rev, q_ev_dnew, q_ev_dzip, q_ev_fnv, q_ev_calv, q_ev_comp2, q_ev_dcomp, q_ev_sls, q_ev_val, q_evs_nil, q_evs_cons, q_evs_star, q_evD_nil, q_evD_cons, q_evAnd_cons, q_evAnd_cons2, q_evOr_cons, q_evOr_cons2, q_evIfs_none, q_evIfs_some, q_evo_none, q_evo_some, q_evi_ex, q_run1_ex, q_run1_set, q_run1_put, q_run1_aug, q_run1_augs, q_run1_ite, q_run1_whl, q_run1_for, q_run1_ret, q_run1_retN, q_run1_rais, q_run1_try, q_run1_brk, q_run1_cnt, q_run1_pas, q_runs_nil, q_runs_cons, q_runH_nil, q_runH_cons, tst, bltop, bindG, bindGs, cmpop, ofB, truthy, int1, int2, ltop, leop, binop, addop, subop, mulop, divop, modop, powop, ixop, items, litems, ditems, mkLst, mkDic, lenop, intop, isiop, tyOf, putop, src, wipeP, metop, metok, isLst, isDic, isStr, isLsq, isTp, appop, popL, getD, slop, revop, tupop, lstop, keyOf, inop, Aes.len, peq, scalP, eqF, isNon, isBl, augop, augix, rwP, cut1]) chk_nil (by rw [sizeLine_eq]; simp) (fun z hz => by
        have e2 := s_as_number (PG := PG) (n := n - 1) (by omega) h z
        simp [body, q_ev_v, q_ev_non, q_ev_bl, q_ev_int, q_ev_str, q_ev_con, q_ev_tup, q_ev_lst, q_ev_bin, q_ev_neg, q_ev_not, q_ev_cmp, q_ev_chain, q_ev_and, q_ev_or, q_ev_ifx, q_ev_ix, q_ev_sl, q_ev_call, q_ev_blt, q_ev_isi, q_ev_met, q_ev_tupS, q_ev_lstS, q_ev_rev, q_ev_dnew, q_ev_dzip, q_ev_fnv, q_ev_calv, q_ev_comp2, q_ev_dcomp, q_ev_sls, q_ev_val, q_evs_nil, q_evs_cons, q_evs_star, q_evD_nil, q_evD_cons, q_evAnd_cons, q_evAnd_cons2, q_evOr_cons, q_evOr_cons2, q_evIfs_none, q_evIfs_some, q_evo_none, q_evo_some, q_evi_ex, q_run1_ex, q_run1_set, q_run1_put, q_run1_aug, q_run1_augs, q_run1_ite, q_run1_whl, q_run1_for, q_run1_ret, q_run1_retN, q_run1_rais, q_run1_try, q_run1_brk, q_run1_cnt, q_run1_pas, q_runs_nil, q_runs_cons, q_runH_nil, q_runH_cons, tst, bltop, bindG, bindGs, cmpop, ofB, truthy, int1, int2, ltop, leop, binop, addop, subop, mulop, divop, modop, powop, ixop, items, litems, ditems, mkLst, mkDic, lenop, intop, isiop, tyOf, putop, src, wipeP, metop, metok, isLst, isDic, isStr, isLsq, isTp, appop, popL, getD, slop, revop, tupop, lstop, keyOf, inop, Aes.len, peq, scalP, eqF, isNon, isBl, augop, augix, turnC, e2]) false
    exact this
  have ec4 : ev PG (call PG (n - 1)) c_numbered_4 [some (.tup (rs.map rwP)), none, none, none, none] h = .ok (.lst (rs.map nr)) h := by
    have := comp_mp (P := PG) (cl := call PG (n - 1)) (elt := (.bin .add false (.tup (.cons (.ix (.v 1) (.int 0)) .nil)) (.blt .tuple false (.cons c_numbered_3 .nil)))) (gt := (.nm 1)) (it := (.ex (.v 0))) (ifs := .none) (own := [("row", 1)]) (ρ := [some (.tup (rs.map rwP)), none, none, none, none]) (h := h) (h' := h) (l := []) (g := rwP) (xs := rs) (f := nr)
      (by simp [body, q_ev_v, q_ev_non, q_ev_bl, q_ev_int, q_ev_str, q_ev_con, q_ev_tup, q_ev_lst, q_ev_bin, q_ev_neg, q_ev_not, q_ev_cmp, q_ev_chain, q_ev_and, q_ev_or, q_ev_ifx, q_ev_ix, q_ev_sl, q_ev_call, q_ev_blt, q_ev_isi, q_ev_met, q_ev_tupS, q_ev_lstS, q_ev_rev, q_ev_dnew, q_ev_dzip, q_ev_fnv, q_ev_calv, q_ev_comp2, q_ev_dcomp, q_ev_sls, q_ev_val, q_evs_nil, q_evs_cons, q_evs_star, q_evD_nil, q_evD_cons, q_evAnd_cons, q_evAnd_cons2, q_evOr_cons, q_evOr_cons2, q_evIfs_none, q_evIfs_some, q_evo_none, q_evo_some, q_evi_ex, q_run1_ex, q_run1_set, q_run1_put, q_run1_aug, q_run1_augs, q_run1_ite, q_run1_whl, q_run1_for, q_run1_ret, q_run1_retN, q_run1_rais, q_run1_try, q_run1_brk, q_run1_cnt, q_run1_pas, q_runs_nil, q_runs_cons, q_runH_nil, q_runH_cons, tst, bltop, bindG, bindGs, cmpop, ofB, truthy, int1, int2, ltop, leop, binop, addop, subop, mulop, divop, modop, powop, ixop, items, litems, ditems, mkLst, mkDic, lenop, intop, isiop, tyOf, putop, src, wipeP, metop, metok, isLst, isDic, isStr, isLsq, isTp, appop, popL, getD, slop, revop, tupop, lstop, keyOf, inop, Aes.len, peq, scalP, eqF, isNon, isBl, augop, augix]) chk_nil sl (fun r hr => by
        have e3 := ec3 r hr
        have z : 1 + 4 ≤ sizeLine := small (b := 5) (by decide) (by decide)
        generalize rs.map rwP = RS at e3 ⊢
        simp only [rwP] at e3 ⊢
        simp [body, q_ev_v, q_ev_non, q_ev_bl, q_ev_int, q_ev_str, q_ev_con, q_ev_tup, q_ev_lst, q_ev_bin, q_ev_neg, q_ev_not, q_ev_cmp, q_ev_chain, q_ev_and, q_ev_or, q_ev_ifx, q_ev_ix, q_ev_sl, q_ev_call, q_ev_blt, q_ev_isi, q_ev_met, q_ev_tupS, q_ev_lstS, q_ev_rev, q_ev_dnew, q_ev_dzip, q_ev_fnv, q_ev_calv, q_ev_comp2, q_ev_dcomp, q_ev_sls, q_ev_val, q_evs_nil, q_evs_cons, q_evs_star, q_evD_nil, q_evD_cons, q_evAnd_cons, q_evAnd_cons2, q_evOr_cons, q_evOr_cons2, q_evIfs_none, q_evIfs_some, q_evo_none, q_evo_some, q_evi_ex, q_run1_ex, q_run1_set, q_run1_put, q_run1_aug, q_run1_augs, q_run1_ite, q_run1_whl, q_run1_for, q_run1_ret, q_run1_retN, q_run1_rais, q_run1_try, q_run1_brk, q_run1_cnt, q_run1_pas, q_runs_nil, q_runs_cons, q_runH_nil, q_runH_cons, tst, bltop, bindG, bindGs, cmpop, ofB, truthy, int1, int2, ltop, leop, binop, addop, subop, mulop, divop, modop, powop, ixop, items, litems, ditems, mkLst, mkDic, lenop, intop, isiop, tyOf, putop, src, wipeP, metop, metok, isLst, isDic, isStr, isLsq, isTp, appop, popL, getD, slop, revop, tupop, lstop, keyOf, inop, Aes.len, peq, scalP, eqF, isNon, isBl, augop, augix, turnC, e3, nr, sizeLine_eq]) false
    exact this
  have ec5 : ev PG (call PG (n - 1)) c_numbered_5 [some (.tup (rs.map rwP)), none, some (.lst (rs.map nr)), none, none] h = .ok (.lst ((rs.map (·.n)).map .str)) h := by
    have := comp_mp (P := PG) (cl := call PG (n - 1)) (elt := (.ix (.v 1) (.int 0))) (gt := (.nm 1)) (it := (.ex (.v 2))) (ifs := .none) (own := [("row", 1)]) (ρ := [some (.tup (rs.map rwP)), none, some (.lst (rs.map nr)), none, none]) (h := h) (h' := h) (l := []) (g := nr) (xs := rs) (f := fun r => .str r.n)
      (by simp [body, q_ev_v, q_ev_non, q_ev_bl, q_ev_int, q_ev_str, q_ev_con, q_ev_tup, q_ev_lst, q_ev_bin, q_ev_neg, q_ev_not, q_ev_cmp, q_ev_chain, q_ev_and, q_ev_or, q_ev_ifx, q_ev_ix, q_ev_sl, q_ev_call, q_ev_blt, q_ev_isi, q_ev_met, q_ev_tupS, q_ev_lstS, q_ev_rev, q_ev_dnew, q_ev_dzip, q_ev_fnv, q_ev_calv, q_ev_comp2, q_ev_dcomp, q_ev_sls, q_ev_val, q_evs_nil, q_evs_cons, q_evs_star, q_evD_nil, q_evD_cons, q_evAnd_cons, q_evAnd_cons2, q_evOr_cons, q_evOr_cons2, q_evIfs_none, q_evIfs_some, q_evo_none, q_evo_some, q_evi_ex, q_run1_ex, q_run1_set, q_run1_put, q_run1_aug, q_run1_augs, q_run1_ite, q_run1_whl, q_run1_for, q_run1_ret, q_run1_retN, q_run1_rais, q_run1_try, q_run1_brk, q_run1_cnt, q_run1_pas, q_runs_nil, q_runs_cons, q_runH_nil, q_runH_cons, tst, bltop, bindG, bindGs, cmpop, ofB, truthy, int1, int2, ltop, leop, binop, addop, subop, mulop, divop, modop, powop, ixop, items, litems, ditems, mkLst, mkDic, lenop, intop, isiop, tyOf, putop, src, wipeP, metop, metok, isLst, isDic, isStr, isLsq, isTp, appop, popL, getD, slop, revop, tupop, lstop, keyOf, inop, Aes.len, peq, scalP, eqF, isNon, isBl, augop, augix]) chk_nil sl (fun r hr => by
        simp [body, q_ev_v, q_ev_non, q_ev_bl, q_ev_int, q_ev_str, q_ev_con, q_ev_tup, q_ev_lst, q_ev_bin, q_ev_neg, q_ev_not, q_ev_cmp, q_ev_chain, q_ev_and, q_ev_or, q_ev_ifx, q_ev_ix, q_ev_sl, q_ev_call, q_ev_blt, q_ev_isi, q_ev_met, q_ev_tupS, q_ev_lstS, q_ev_rev, q_ev_dnew, q_ev_dzip, q_ev_fnv, q_ev_calv, q_ev_comp2, q_ev_dcomp, q_ev_sls, q_ev_val, q_evs_nil, q_evs_cons, q_evs_star, q_evD_nil, q_evD_cons, q_evAnd_cons, q_evAnd_cons2, q_evOr_cons, q_evOr_cons2, q_evIfs_none, q_evIfs_some, q_evo_none, q_evo_some, q_evi_ex, q_run1_ex, q_run1_set, q_run1_put, q_run1_aug, q_run1_augs, q_run1_ite, q_run1_whl, q_run1_for, q_run1_ret, q_run1_retN, q_run1_rais, q_run1_try, q_run1_brk, q_run1_cnt, q_run1_pas, q_runs_nil, q_runs_cons, q_runH_nil, q_runH_cons, tst, bltop, bindG, bindGs, cmpop, ofB, truthy, int1, int2, ltop, leop, binop, addop, subop, mulop, divop, modop, powop, ixop, items, litems, ditems, mkLst, mkDic, lenop, intop, isiop, tyOf, putop, src, wipeP, metop, metok, isLst, isDic, isStr, isLsq, isTp, appop, popL, getD, slop, revop, tupop, lstop, keyOf, inop, Aes.len, peq, scalP, eqF, isNon, isBl, augop, augix, turnC, nr]) false
    refine this.trans ?_
    simp [mkLst, Function.comp_def]
  have ec6 : ev PG (call PG (n - 1)) c_numbered_6 [some (.tup (rs.map rwP)), none, some (.lst (rs.map nr)), none, none] h = .ok (.lst ((rs.map fun _ => [PV.bl false, PV.bl false]).flatten)) h := by
    have := comp2_mp (P := PG) (cl := call PG (n - 1)) (r := false) (elt := .cmp .lt (.ix (.v 4) (.int 0)) (.int 0)) (gt := .nm 1) (it := .ex (.v 2)) (g2 := .nm 4) (it2 := .ex (.sl false (.v 1) (.some (.int 3)) .none)) (own := [("row", 1), ("size", 4)]) (vs2 := [4]) (ρ := [some (.tup (rs.map rwP)), none, some (.lst (rs.map nr)), none, none]) (h := h) (l := []) (g := nr) (xs := rs) (f := fun _ => [PV.bl false, PV.bl false])
      (by simp [body, q_ev_v, q_ev_non, q_ev_bl, q_ev_int, q_ev_str, q_ev_con, q_ev_tup, q_ev_lst, q_ev_bin, q_ev_neg, q_ev_not, q_ev_cmp, q_ev_chain, q_ev_and, q_ev_or, q_ev_ifx, q_ev_ix, q_ev_sl, q_ev_call, q_ev_blt, q_ev_isi, q_ev_met, q_ev_tupS, q_ev_lstS, q_ev_rev, q_ev_dnew, q_ev_dzip, q_ev_fnv, q_ev_calv, q_ev_comp2, q_ev_dcomp, q_ev_sls, q_ev_val, q_evs_nil, q_evs_cons, q_evs_star, q_evD_nil, q_evD_cons, q_evAnd_cons, q_evAnd_cons2, q_evOr_cons, q_evOr_cons2, q_evIfs_none, q_evIfs_some, q_evo_none, q_evo_some, q_evi_ex, q_run1_ex, q_run1_set, q_run1_put, q_run1_aug, q_run1_augs, q_run1_ite, q_run1_whl, q_run1_for, q_run1_ret, q_run1_retN, q_run1_rais, q_run1_try, q_run1_brk, q_run1_cnt, q_run1_pas, q_runs_nil, q_runs_cons, q_runH_nil, q_runH_cons, tst, bltop, bindG, bindGs, cmpop, ofB, truthy, int1, int2, ltop, leop, binop, addop, subop, mulop, divop, modop, powop, ixop, items, litems, ditems, mkLst, mkDic, lenop, intop, isiop, tyOf, putop, src, wipeP, metop, metok, isLst, isDic, isStr, isLsq, isTp, appop, popL, getD, slop, revop, tupop, lstop, keyOf, inop, Aes.len, peq, scalP, eqF, isNon, isBl, augop, augix]) chk_nil (by rw [flat2]; exact small (b := 20) (by omega) (by decide)) (fun r hr acc => by
        obtain ⟨w1, w2⟩ := s.w r hr
        have w1' : ¬ r.w < 0 := by omega
        have w2' : ¬ r.h < 0 := by omega
        generalize rs.map rwP = RS
        generalize rs.map nr = RN
        simp [body, q_ev_v, q_ev_non, q_ev_bl, q_ev_int, q_ev_str, q_ev_con, q_ev_tup, q_ev_lst, q_ev_bin, q_ev_neg, q_ev_not, q_ev_cmp, q_ev_chain, q_ev_and, q_ev_or, q_ev_ifx, q_ev_ix, q_ev_sl, q_ev_call, q_ev_blt, q_ev_isi, q_ev_met, q_ev_tupS, q_ev_lstS, q_ev_rev, q_ev_dnew, q_ev_dzip, q_ev_fnv, q_ev_calv, q_ev_comp2, q_ev_dcomp, q_ev_sls, q_ev_val, q_evs_nil, q_evs_cons, q_evs_star, q_evD_nil, q_evD_cons, q_evAnd_cons, q_evAnd_cons2, q_evOr_cons, q_evOr_cons2, q_evIfs_none, q_evIfs_some, q_evo_none, q_evo_some, q_evi_ex, q_run1_ex, q_run1_set, q_run1_put, q_run1_aug, q_run1_augs, q_run1_ite, q_run1_whl, q_run1_for, q_run1_ret, q_run1_retN, q_run1_rais, q_run1_try, q_run1_brk, q_run1_cnt, q_run1_pas, q_runs_nil, q_runs_cons, q_runH_nil, q_runH_cons, tst, bltop, bindG, bindGs, cmpop, ofB, truthy, int1, int2, ltop, leop, binop, addop, subop, mulop, divop, modop, powop, ixop, items, litems, ditems, mkLst, mkDic, lenop, intop, isiop, tyOf, putop, src, wipeP, metop, metok, isLst, isDic, isStr, isLsq, isTp, appop, popL, getD, slop, revop, tupop, lstop, keyOf, inop, Aes.len, peq, scalP, eqF, isNon, isBl, augop, augix, turnA, nr, cut3, compL, chk_nil, i1, w1', w2'])
    exact this
  obtain ⟨b6, b7, b8⟩ := any2 (rs := rs)
  have e7 := s_is_ascending (PG := PG) (n := n - 1) (by omega) h (v := .lst ((rs.map (·.n)).map .str)) (rs.map (·.n)) rfl rfl rfl (by rw [List.length_map]; omega)
  rw [s.asc] at e7
  generalize (rs.map fun r => PV.bl ((fun _ => false) r)) = L1 at *
  generalize (rs.map fun _ => false) = B1 at *
  generalize (rs.map fun r => PV.bl ((fun _ => true) r)) = L2' at *
  generalize (rs.map fun _ => true) = B2 at *
  generalize ((rs.map fun _ => [PV.bl false, PV.bl false]).flatten) = L6 at *
  generalize ((rs.map (·.n)).map PV.str) = L5 at *
  have D1 : Dts (rs.map nr) := inferInstance
  generalize rs.map nr = L4 at *
  generalize rs.map rwP = L0 at *
  simp [body, q_ev_v, q_ev_non, q_ev_bl, q_ev_int, q_ev_str, q_ev_con, q_ev_tup, q_ev_lst, q_ev_bin, q_ev_neg, q_ev_not, q_ev_cmp, q_ev_chain, q_ev_and, q_ev_or, q_ev_ifx, q_ev_ix, q_ev_sl, q_ev_call, q_ev_blt, q_ev_isi, q_ev_met, q_ev_tupS, q_ev_lstS, q_ev_rev, q_ev_dnew, q_ev_dzip, q_ev_fnv, q_ev_calv, q_ev_comp2, q_ev_dcomp, q_ev_sls, q_ev_val, q_evs_nil, q_evs_cons, q_evs_star, q_evD_nil, q_evD_cons, q_evAnd_cons, q_evAnd_cons2, q_evOr_cons, q_evOr_cons2, q_evIfs_none, q_evIfs_some, q_evo_none, q_evo_some, q_evi_ex, q_run1_ex, q_run1_set, q_run1_put, q_run1_aug, q_run1_augs, q_run1_ite, q_run1_whl, q_run1_for, q_run1_ret, q_run1_retN, q_run1_rais, q_run1_try, q_run1_brk, q_run1_cnt, q_run1_pas, q_runs_nil, q_runs_cons, q_runH_nil, q_runH_cons, tst, bltop, bindG, bindGs, cmpop, ofB, truthy, int1, int2, ltop, leop, binop, addop, subop, mulop, divop, modop, powop, ixop, items, litems, ditems, mkLst, mkDic, lenop, intop, isiop, tyOf, putop, src, wipeP, metop, metok, isLst, isDic, isStr, isLsq, isTp, appop, popL, getD, slop, revop, tupop, lstop, keyOf, inop, Aes.len, peq, scalP, eqF, isNon, isBl, augop, augix, f_numbered, subB, ec1, ec2, ec4, ec5, ec6, e7, boolsop, b1, b2, a1, a2, b7, b8]
  exact end_rt
end Mx.FB

end

section
set_option Elab.async false
set_option linter.all false
set_option maxRecDepth 100000
set_option maxHeartbeats 4000000
set_option exponentiation.threshold 20000
namespace Mx.FB
open PySem PySem.Spec PyProof.Rows L2 Mx

theorem lit41 {z : Int} (h : Lit z) : z.natAbs < 2 ^ 41 := by
  have : z.natAbs < 2 ^ 40 := h
  omega
theorem lit_add {a b : Int} (h1 : Lit a) (h2 : Lit b) : (a + b).natAbs < 2 ^ 41 := by
  have h1 : a.natAbs < 2 ^ 40 := h1
  have h2 : b.natAbs < 2 ^ 40 := h2
  omega
theorem s_sum_int {PG : Pg} [Has PG "sum_of_two" f_sum_of_two] [Has PG "lowest" f_lowest] {n : Nat} (hn : 1 ≤ n) (h : MH) (a b : Int) : call PG n "sum_of_two" [i1 a, i1 b] [] [] h = .ok (i1 (a + b)) h := by
  rw [call_ge hn rfl]
  simp [body, q_ev_v, q_ev_non, q_ev_bl, q_ev_int, q_ev_str, q_ev_con, q_ev_tup, q_ev_lst, q_ev_bin, q_ev_neg, q_ev_not, q_ev_cmp, q_ev_chain, q_ev_and, q_ev_or, q_ev_ifx, q_ev_ix, q_ev_sl, q_ev_call, q_ev_blt, q_ev_isi, q_ev_met, q_ev_tupS, q_ev_lstS, q_ev_rev, q_ev_dnew, q_ev_dzip, q_ev_fnv, q_ev_calv, q_ev_comp2, q_ev_dcomp, q_ev_sls, q_ev_val, q_evs_nil, q_evs_cons, q_evs_star, q_evD_nil, q_evD_cons, q_evAnd_cons, q_evAnd_cons2, q_evOr_cons, q_evOr_cons2, q_evIfs_none, q_evIfs_some, q_evo_none, q_evo_some, q_evi_ex, q_run1_ex, q_run1_set, q_run1_put, q_run1_aug, q_run1_augs, q_run1_ite, q_run1_whl, q_run1_for, q_run1_ret, q_run1_retN, q_run1_rais, q_run1_try, q_run1_brk, q_run1_cnt, q_run1_pas, q_runs_nil, q_runs_cons, q_runH_nil, q_runH_cons, tst, bltop, bindG, bindGs, cmpop, ofB, truthy, int1, int2, ltop, leop, binop, addop, subop, mulop, divop, modop, powop, ixop, items, litems, ditems, mkLst, mkDic, lenop, intop, isiop, tyOf, putop, src, wipeP, metop, metok, isLst, isDic, isStr, isLsq, isTp, appop, popL, getD, slop, revop, tupop, lstop, keyOf, inop, Aes.len, peq, scalP, eqF, isNon, isBl, augop, augix, f_sum_of_two, i1]
  exact end_rt
theorem s_is_less_int {PG : Pg} [Has PG "is_less" f_is_less] {n : Nat} (hn : 1 ≤ n) (h : MH) (a b : Int) (ha : a.natAbs < 2 ^ 41) (hb : b.natAbs < 2 ^ 41) : call PG n "is_less" [i1 a, i1 b] [] [] h = .ok (.bl (decide (a < b))) h := by
  rw [call_ge hn rfl]
  have m1 : fits a 1 := fits_z (k := 41) (m := 1) ha (by decide) (by decide)
  have m2 : fits b 1 := fits_z (k := 41) (m := 1) hb (by decide) (by decide)
  simp [body, q_ev_v, q_ev_non, q_ev_bl, q_ev_int, q_ev_str, q_ev_con, q_ev_tup, q_ev_lst, q_ev_bin, q_ev_neg, q_ev_not, q_ev_cmp, q_ev_chain, q_ev_and, q_ev_or, q_ev_ifx, q_ev_ix, q_ev_sl, q_ev_call, q_ev_blt, q_ev_isi, q_ev_met, q_ev_tupS, q_ev_lstS, q_ev_rev, q_ev_dnew, q_ev_dzip, q_ev_fnv, q_ev_calv, q_ev_comp2, q_ev_dcomp, q_ev_sls, q_ev_val, q_evs_nil, q_evs_cons, q_evs_star, q_evD_nil, q_evD_cons, q_evAnd_cons, q_evAnd_cons2, q_evOr_cons, q_evOr_cons2, q_evIfs_none, q_evIfs_some, q_evo_none, q_evo_some, q_evi_ex, q_run1_ex, q_run1_set, q_run1_put, q_run1_aug, q_run1_augs, q_run1_ite, q_run1_whl, q_run1_for, q_run1_ret, q_run1_retN, q_run1_rais, q_run1_try, q_run1_brk, q_run1_cnt, q_run1_pas, q_runs_nil, q_runs_cons, q_runH_nil, q_runH_cons, tst, bltop, bindG, bindGs, cmpop, ofB, truthy, int1, int2, ltop, leop, binop, addop, subop, mulop, divop, modop, powop, ixop, items, litems, ditems, mkLst, mkDic, lenop, intop, isiop, tyOf, putop, src, wipeP, metop, metok, isLst, isDic, isStr, isLsq, isTp, appop, popL, getD, slop, revop, tupop, lstop, keyOf, inop, Aes.len, peq, scalP, eqF, isNon, isBl, augop, augix, f_is_less, i1, m1, m2]
  exact end_rt
theorem ax_x (h : MH) : tixop (.tup [.str "across", .str "down"]) (.str "across") h = .ok (.int 0) h := by
  unfold tixop
  simp [strsOf]
theorem ax_y (h : MH) : tixop (.tup [.str "across", .str "down"]) (.str "down") h = .ok (.int 1) h := by
  unfold tixop
  have z : (("across" : Str) == ("down" : Str)) = false := by decide
  simp [strsOf, List.idxOf_cons, z]
theorem s_along_x {PG : Pg} [Has PG "along" f_along] [Has PG "sum_of_two" f_sum_of_two] [Has PG "lowest" f_lowest] [HasC PG "AXES" (.tup [(.str "across"), (.str "down")])] {n : Nat} (hn : 2 ≤ n) (h : MH) (r : Rw) : call PG n "along" [nr r, .str "across"] [] [] h = .ok (.tup [i1 r.l, i1 (r.l + r.w)]) h := by
  rw [call_ge (by omega) rfl]
  have e1 := s_sum_int (PG := PG) (n := n - 1) (by omega) h r.l r.w
  have hs := ax_x h
  simp [body, q_ev_v, q_ev_non, q_ev_bl, q_ev_int, q_ev_str, q_ev_con, q_ev_tup, q_ev_lst, q_ev_bin, q_ev_neg, q_ev_not, q_ev_cmp, q_ev_chain, q_ev_and, q_ev_or, q_ev_ifx, q_ev_ix, q_ev_sl, q_ev_call, q_ev_blt, q_ev_isi, q_ev_met, q_ev_tupS, q_ev_lstS, q_ev_rev, q_ev_dnew, q_ev_dzip, q_ev_fnv, q_ev_calv, q_ev_comp2, q_ev_dcomp, q_ev_sls, q_ev_val, q_evs_nil, q_evs_cons, q_evs_star, q_evD_nil, q_evD_cons, q_evAnd_cons, q_evAnd_cons2, q_evOr_cons, q_evOr_cons2, q_evIfs_none, q_evIfs_some, q_evo_none, q_evo_some, q_evi_ex, q_run1_ex, q_run1_set, q_run1_put, q_run1_aug, q_run1_augs, q_run1_ite, q_run1_whl, q_run1_for, q_run1_ret, q_run1_retN, q_run1_rais, q_run1_try, q_run1_brk, q_run1_cnt, q_run1_pas, q_runs_nil, q_runs_cons, q_runH_nil, q_runH_cons, tst, bltop, bindG, bindGs, cmpop, ofB, truthy, int1, int2, ltop, leop, binop, addop, subop, mulop, divop, modop, powop, ixop, items, litems, ditems, mkLst, mkDic, lenop, intop, isiop, tyOf, putop, src, wipeP, metop, metok, isLst, isDic, isStr, isLsq, isTp, appop, popL, getD, slop, revop, tupop, lstop, keyOf, inop, Aes.len, peq, scalP, eqF, isNon, isBl, augop, augix, f_along, nr, cut1, HasC.eq (P := PG) (x := "AXES"), hs, slsop, ev02, e1]
  exact end_rt
theorem s_covers_x {PG : Pg} [Has PG "covers" f_covers] [Has PG "is_less" f_is_less] [Has PG "along" f_along] [Has PG "sum_of_two" f_sum_of_two] [Has PG "lowest" f_lowest] [HasC PG "AXES" (.tup [(.str "across"), (.str "down")])] {n : Nat} (hn : 3 ≤ n) (h : MH) (r : Rw) (z : Int) (h1 : Lit r.l) (h2 : Lit r.w) (h3 : Lit z) : call PG n "covers" [nr r, .str "across", .int z] [] [] h = .ok (.bl (decide (r.l ≤ z) && decide (z < r.l + r.w))) h := by
  rw [call_ge (by omega) rfl]
  have e1 := s_along_x (PG := PG) (n := n - 1) (by omega) h r
  have e2 := s_is_less_int (PG := PG) (n := n - 1) (by omega) h z r.l (lit41 h3) (lit41 h1)
  have e3 := s_is_less_int (PG := PG) (n := n - 1) (by omega) h z (r.l + r.w) (lit41 h3) (lit_add h1 h2)
  simp only [i1] at e1 e2 e3
  generalize nr r = R at *
  by_cases c : z < r.l
  · have c' : ¬ r.l ≤ z := by omega
    rw [decide_eq_true c] at e2
    rw [decide_eq_false c', Bool.false_and]
    simp [body, q_ev_v, q_ev_non, q_ev_bl, q_ev_int, q_ev_str, q_ev_con, q_ev_tup, q_ev_lst, q_ev_bin, q_ev_neg, q_ev_not, q_ev_cmp, q_ev_chain, q_ev_and, q_ev_or, q_ev_ifx, q_ev_ix, q_ev_sl, q_ev_call, q_ev_blt, q_ev_isi, q_ev_met, q_ev_tupS, q_ev_lstS, q_ev_rev, q_ev_dnew, q_ev_dzip, q_ev_fnv, q_ev_calv, q_ev_comp2, q_ev_dcomp, q_ev_sls, q_ev_val, q_evs_nil, q_evs_cons, q_evs_star, q_evD_nil, q_evD_cons, q_evAnd_cons, q_evAnd_cons2, q_evOr_cons, q_evOr_cons2, q_evIfs_none, q_evIfs_some, q_evo_none, q_evo_some, q_evi_ex, q_run1_ex, q_run1_set, q_run1_put, q_run1_aug, q_run1_augs, q_run1_ite, q_run1_whl, q_run1_for, q_run1_ret, q_run1_retN, q_run1_rais, q_run1_try, q_run1_brk, q_run1_cnt, q_run1_pas, q_runs_nil, q_runs_cons, q_runH_nil, q_runH_cons, tst, bltop, bindG, bindGs, cmpop, ofB, truthy, int1, int2, ltop, leop, binop, addop, subop, mulop, divop, modop, powop, ixop, items, litems, ditems, mkLst, mkDic, lenop, intop, isiop, tyOf, putop, src, wipeP, metop, metok, isLst, isDic, isStr, isLsq, isTp, appop, popL, getD, slop, revop, tupop, lstop, keyOf, inop, Aes.len, peq, scalP, eqF, isNon, isBl, augop, augix, f_covers, e1, e2]
    exact end_rt
  · have c' : r.l ≤ z := by omega
    rw [decide_eq_false c] at e2
    rw [decide_eq_true c', Bool.true_and]
    simp [body, q_ev_v, q_ev_non, q_ev_bl, q_ev_int, q_ev_str, q_ev_con, q_ev_tup, q_ev_lst, q_ev_bin, q_ev_neg, q_ev_not, q_ev_cmp, q_ev_chain, q_ev_and, q_ev_or, q_ev_ifx, q_ev_ix, q_ev_sl, q_ev_call, q_ev_blt, q_ev_isi, q_ev_met, q_ev_tupS, q_ev_lstS, q_ev_rev, q_ev_dnew, q_ev_dzip, q_ev_fnv, q_ev_calv, q_ev_comp2, q_ev_dcomp, q_ev_sls, q_ev_val, q_evs_nil, q_evs_cons, q_evs_star, q_evD_nil, q_evD_cons, q_evAnd_cons, q_evAnd_cons2, q_evOr_cons, q_evOr_cons2, q_evIfs_none, q_evIfs_some, q_evo_none, q_evo_some, q_evi_ex, q_run1_ex, q_run1_set, q_run1_put, q_run1_aug, q_run1_augs, q_run1_ite, q_run1_whl, q_run1_for, q_run1_ret, q_run1_retN, q_run1_rais, q_run1_try, q_run1_brk, q_run1_cnt, q_run1_pas, q_runs_nil, q_runs_cons, q_runH_nil, q_runH_cons, tst, bltop, bindG, bindGs, cmpop, ofB, truthy, int1, int2, ltop, leop, binop, addop, subop, mulop, divop, modop, powop, ixop, items, litems, ditems, mkLst, mkDic, lenop, intop, isiop, tyOf, putop, src, wipeP, metop, metok, isLst, isDic, isStr, isLsq, isTp, appop, popL, getD, slop, revop, tupop, lstop, keyOf, inop, Aes.len, peq, scalP, eqF, isNon, isBl, augop, augix, f_covers, e1, e2, e3]
    exact end_rt
theorem s_along_y {PG : Pg} [Has PG "along" f_along] [Has PG "sum_of_two" f_sum_of_two] [Has PG "lowest" f_lowest] [HasC PG "AXES" (.tup [(.str "across"), (.str "down")])] {n : Nat} (hn : 2 ≤ n) (h : MH) (r : Rw) : call PG n "along" [nr r, .str "down"] [] [] h = .ok (.tup [i1 r.u, i1 (r.u + r.h)]) h := by
  rw [call_ge (by omega) rfl]
  have e1 := s_sum_int (PG := PG) (n := n - 1) (by omega) h r.u r.h
  have hs := ax_y h
  simp [body, q_ev_v, q_ev_non, q_ev_bl, q_ev_int, q_ev_str, q_ev_con, q_ev_tup, q_ev_lst, q_ev_bin, q_ev_neg, q_ev_not, q_ev_cmp, q_ev_chain, q_ev_and, q_ev_or, q_ev_ifx, q_ev_ix, q_ev_sl, q_ev_call, q_ev_blt, q_ev_isi, q_ev_met, q_ev_tupS, q_ev_lstS, q_ev_rev, q_ev_dnew, q_ev_dzip, q_ev_fnv, q_ev_calv, q_ev_comp2, q_ev_dcomp, q_ev_sls, q_ev_val, q_evs_nil, q_evs_cons, q_evs_star, q_evD_nil, q_evD_cons, q_evAnd_cons, q_evAnd_cons2, q_evOr_cons, q_evOr_cons2, q_evIfs_none, q_evIfs_some, q_evo_none, q_evo_some, q_evi_ex, q_run1_ex, q_run1_set, q_run1_put, q_run1_aug, q_run1_augs, q_run1_ite, q_run1_whl, q_run1_for, q_run1_ret, q_run1_retN, q_run1_rais, q_run1_try, q_run1_brk, q_run1_cnt, q_run1_pas, q_runs_nil, q_runs_cons, q_runH_nil, q_runH_cons, tst, bltop, bindG, bindGs, cmpop, ofB, truthy, int1, int2, ltop, leop, binop, addop, subop, mulop, divop, modop, powop, ixop, items, litems, ditems, mkLst, mkDic, lenop, intop, isiop, tyOf, putop, src, wipeP, metop, metok, isLst, isDic, isStr, isLsq, isTp, appop, popL, getD, slop, revop, tupop, lstop, keyOf, inop, Aes.len, peq, scalP, eqF, isNon, isBl, augop, augix, f_along, nr, cut1, HasC.eq (P := PG) (x := "AXES"), hs, slsop, ev12, e1]
  exact end_rt
theorem s_covers_y {PG : Pg} [Has PG "covers" f_covers] [Has PG "is_less" f_is_less] [Has PG "along" f_along] [Has PG "sum_of_two" f_sum_of_two] [Has PG "lowest" f_lowest] [HasC PG "AXES" (.tup [(.str "across"), (.str "down")])] {n : Nat} (hn : 3 ≤ n) (h : MH) (r : Rw) (z : Int) (h1 : Lit r.u) (h2 : Lit r.h) (h3 : Lit z) : call PG n "covers" [nr r, .str "down", .int z] [] [] h = .ok (.bl (decide (r.u ≤ z) && decide (z < r.u + r.h))) h := by
  rw [call_ge (by omega) rfl]
  have e1 := s_along_y (PG := PG) (n := n - 1) (by omega) h r
  have e2 := s_is_less_int (PG := PG) (n := n - 1) (by omega) h z r.u (lit41 h3) (lit41 h1)
  have e3 := s_is_less_int (PG := PG) (n := n - 1) (by omega) h z (r.u + r.h) (lit41 h3) (lit_add h1 h2)
  simp only [i1] at e1 e2 e3
  generalize nr r = R at *
  by_cases c : z < r.u
  · have c' : ¬ r.u ≤ z := by omega
    rw [decide_eq_true c] at e2
    rw [decide_eq_false c', Bool.false_and]
    simp [body, q_ev_v, q_ev_non, q_ev_bl, q_ev_int, q_ev_str, q_ev_con, q_ev_tup, q_ev_lst, q_ev_bin, q_ev_neg, q_ev_not, q_ev_cmp, q_ev_chain, q_ev_and, q_ev_or, q_ev_ifx, q_ev_ix, q_ev_sl, q_ev_call, q_ev_blt, q_ev_isi, q_ev_met, q_ev_tupS, q_ev_lstS, q_ev_rev, q_ev_dnew, q_ev_dzip, q_ev_fnv, q_ev_calv, q_ev_comp2, q_ev_dcomp, q_ev_sls, q_ev_val, q_evs_nil, q_evs_cons, q_evs_star, q_evD_nil, q_evD_cons, q_evAnd_cons, q_evAnd_cons2, q_evOr_cons, q_evOr_cons2, q_evIfs_none, q_evIfs_some, q_evo_none, q_evo_some, q_evi_ex, q_run1_ex, q_run1_set, q_run1_put, q_run1_aug, q_run1_augs, q_run1_ite, q_run1_whl, q_run1_for, q_run1_ret, q_run1_retN, q_run1_rais, q_run1_try, q_run1_brk, q_run1_cnt, q_run1_pas, q_runs_nil, q_runs_cons, q_runH_nil, q_runH_cons, tst, bltop, bindG, bindGs, cmpop, ofB, truthy, int1, int2, ltop, leop, binop, addop, subop, mulop, divop, modop, powop, ixop, items, litems, ditems, mkLst, mkDic, lenop, intop, isiop, tyOf, putop, src, wipeP, metop, metok, isLst, isDic, isStr, isLsq, isTp, appop, popL, getD, slop, revop, tupop, lstop, keyOf, inop, Aes.len, peq, scalP, eqF, isNon, isBl, augop, augix, f_covers, e1, e2]
    exact end_rt
  · have c' : r.u ≤ z := by omega
    rw [decide_eq_false c] at e2
    rw [decide_eq_true c', Bool.true_and]
    simp [body, q_ev_v, q_ev_non, q_ev_bl, q_ev_int, q_ev_str, q_ev_con, q_ev_tup, q_ev_lst, q_ev_bin, q_ev_neg, q_ev_not, q_ev_cmp, q_ev_chain, q_ev_and, q_ev_or, q_ev_ifx, q_ev_ix, q_ev_sl, q_ev_call, q_ev_blt, q_ev_isi, q_ev_met, q_ev_tupS, q_ev_lstS, q_ev_rev, q_ev_dnew, q_ev_dzip, q_ev_fnv, q_ev_calv, q_ev_comp2, q_ev_dcomp, q_ev_sls, q_ev_val, q_evs_nil, q_evs_cons, q_evs_star, q_evD_nil, q_evD_cons, q_evAnd_cons, q_evAnd_cons2, q_evOr_cons, q_evOr_cons2, q_evIfs_none, q_evIfs_some, q_evo_none, q_evo_some, q_evi_ex, q_run1_ex, q_run1_set, q_run1_put, q_run1_aug, q_run1_augs, q_run1_ite, q_run1_whl, q_run1_for, q_run1_ret, q_run1_retN, q_run1_rais, q_run1_try, q_run1_brk, q_run1_cnt, q_run1_pas, q_runs_nil, q_runs_cons, q_runH_nil, q_runH_cons, tst, bltop, bindG, bindGs, cmpop, ofB, truthy, int1, int2, ltop, leop, binop, addop, subop, mulop, divop, modop, powop, ixop, items, litems, ditems, mkLst, mkDic, lenop, intop, isiop, tyOf, putop, src, wipeP, metop, metok, isLst, isDic, isStr, isLsq, isTp, appop, popL, getD, slop, revop, tupop, lstop, keyOf, inop, Aes.len, peq, scalP, eqF, isNon, isBl, augop, augix, f_covers, e1, e2, e3]
    exact end_rt

/-- a row stands at a place -/
def cov (r : Rw) (x y : Int) : Bool := (decide (r.l ≤ x) && decide (x < r.l + r.w)) && (decide (r.u ≤ y) && decide (y < r.u + r.h))
/-- the name that is seen -/
def topR (rs : List Rw) (x y : Int) : Str := rs.foldl (fun s r => if cov r x y = true then r.n else s) ""
theorem top_fold {rs : List Rw} {x y : Int} {s : Str} {w : Option PV} {f : Rw → PV} : (rs.foldl (fun (s : Str × Option PV) r => (if cov r x y = true then r.n else s.1, some (f r))) (s, w)).1 = rs.foldl (fun s r => if cov r x y = true then r.n else s) s := by
  induction rs generalizing s w with
  | nil => rfl
  | cons r rs ih => exact ih
theorem s_top_name {PG : Pg} [Has PG "top_name" f_top_name] [Has PG "covers" f_covers] [Has PG "is_less" f_is_less] [Has PG "along" f_along] [Has PG "sum_of_two" f_sum_of_two] [Has PG "lowest" f_lowest] [HasC PG "AXES" (.tup [(.str "across"), (.str "down")])] {n : Nat} (hn : 4 ≤ n) (h : MH) {rs : List Rw} (lit : ∀ r ∈ rs, Lit r.l ∧ Lit r.u ∧ Lit r.w ∧ Lit r.h) (x y : Int) (hx : Lit x) (hy : Lit y) : call PG n "top_name" [.lst (rs.map nr), .int x, .int y] [] [] h = .ok (.str (topR rs x y)) h := by
  rw [call_ge (by omega) rfl]
  have el : ∃ w, run1 PG (call PG (n - 1)) l_top_name_1 [some (.lst (rs.map nr)), some (.int x), some (.int y), some (.str ""), none] h = .nx [some (.lst (rs.map nr)), some (.int x), some (.int y), some (.str (topR rs x y)), w] h := by
    have := for_fold (α := Rw) (g := nr) (l := []) (body := turnF PG (call PG (n - 1)) (.nm 4) (.cons (.ite (.and (.cons (.call "covers" (.cons (.v 4) (.cons (.str "across") (.cons (.v 1) .nil))) [] .nil) (.cons (.call "covers" (.cons (.v 4) (.cons (.str "down") (.cons (.v 2) .nil))) [] .nil) .nil))) (.cons (.set (.nm 3) (.ix (.v 4) (.int 0))) .nil) .nil) .nil))
      (E := fun (s : Str × Option PV) => [some (.lst (rs.map nr)), some (.int x), some (.int y), some (.str s.1), s.2]) (H := fun _ => h) (st := fun s r => (if cov r x y = true then r.n else s.1, some (nr r))) (fun xs s => ∀ r ∈ xs, Lit r.l ∧ Lit r.u ∧ Lit r.w ∧ Lit r.h) (fun _ => chk_nil) (fun r xs s j => by
        obtain ⟨l1, l2, l3, l4⟩ := j r List.mem_cons_self
        refine ⟨?_, fun z hz => j z (List.mem_cons_of_mem _ hz)⟩
        have e1 := s_covers_x (PG := PG) (n := n - 1) (by omega) h r x l1 l3 hx
        have e2 := s_covers_y (PG := PG) (n := n - 1) (by omega) h r y l2 l4 hy
        have e3 : ixop (nr r) (.int 0) h = .ok (.str r.n) h := rfl
        generalize rs.map nr = RS
        generalize nr r = R at *
        unfold cov
        cases c1 : (decide (r.l ≤ x) && decide (x < r.l + r.w)) with
        | false =>
          rw [c1] at e1
          simp [body, q_ev_v, q_ev_non, q_ev_bl, q_ev_int, q_ev_str, q_ev_con, q_ev_tup, q_ev_lst, q_ev_bin, q_ev_neg, q_ev_not, q_ev_cmp, q_ev_chain, q_ev_and, q_ev_or, q_ev_ifx, q_ev_ix, q_ev_sl, q_ev_call, q_ev_blt, q_ev_isi, q_ev_met, q_ev_tupS, q_ev_lstS, q_ev_rev, q_ev_dnew, q_ev_dzip, q_ev_fnv, q_ev_calv, q_ev_comp2, q_ev_dcomp, q_ev_sls, q_ev_val, q_evs_nil, q_evs_cons, q_evs_star, q_evD_nil, q_evD_cons, q_evAnd_cons, q_evAnd_cons2, q_evOr_cons, q_evOr_cons2, q_evIfs_none, q_evIfs_some, q_evo_none, q_evo_some, q_evi_ex, q_run1_ex, q_run1_set, q_run1_put, q_run1_aug, q_run1_augs, q_run1_ite, q_run1_whl, q_run1_for, q_run1_ret, q_run1_retN, q_run1_rais, q_run1_try, q_run1_brk, q_run1_cnt, q_run1_pas, q_runs_nil, q_runs_cons, q_runH_nil, q_runH_cons, tst, bltop, bindG, bindGs, cmpop, ofB, truthy, int1, int2, ltop, leop, binop, addop, subop, mulop, divop, modop, powop, ixop, items, litems, ditems, mkLst, mkDic, lenop, intop, isiop, tyOf, putop, src, wipeP, metop, metok, isLst, isDic, isStr, isLsq, isTp, appop, popL, getD, slop, revop, tupop, lstop, keyOf, inop, Aes.len, peq, scalP, eqF, isNon, isBl, augop, augix, -ixop, turnF, e1]
        | true =>
          rw [c1] at e1
          cases c2 : (decide (r.u ≤ y) && decide (y < r.u + r.h)) with
          | false =>
            rw [c2] at e2
            simp [body, q_ev_v, q_ev_non, q_ev_bl, q_ev_int, q_ev_str, q_ev_con, q_ev_tup, q_ev_lst, q_ev_bin, q_ev_neg, q_ev_not, q_ev_cmp, q_ev_chain, q_ev_and, q_ev_or, q_ev_ifx, q_ev_ix, q_ev_sl, q_ev_call, q_ev_blt, q_ev_isi, q_ev_met, q_ev_tupS, q_ev_lstS, q_ev_rev, q_ev_dnew, q_ev_dzip, q_ev_fnv, q_ev_calv, q_ev_comp2, q_ev_dcomp, q_ev_sls, q_ev_val, q_evs_nil, q_evs_cons, q_evs_star, q_evD_nil, q_evD_cons, q_evAnd_cons, q_evAnd_cons2, q_evOr_cons, q_evOr_cons2, q_evIfs_none, q_evIfs_some, q_evo_none, q_evo_some, q_evi_ex, q_run1_ex, q_run1_set, q_run1_put, q_run1_aug, q_run1_augs, q_run1_ite, q_run1_whl, q_run1_for, q_run1_ret, q_run1_retN, q_run1_rais, q_run1_try, q_run1_brk, q_run1_cnt, q_run1_pas, q_runs_nil, q_runs_cons, q_runH_nil, q_runH_cons, tst, bltop, bindG, bindGs, cmpop, ofB, truthy, int1, int2, ltop, leop, binop, addop, subop, mulop, divop, modop, powop, ixop, items, litems, ditems, mkLst, mkDic, lenop, intop, isiop, tyOf, putop, src, wipeP, metop, metok, isLst, isDic, isStr, isLsq, isTp, appop, popL, getD, slop, revop, tupop, lstop, keyOf, inop, Aes.len, peq, scalP, eqF, isNon, isBl, augop, augix, -ixop, turnF, e1, e2]
          | true =>
            rw [c2] at e2
            simp [body, q_ev_v, q_ev_non, q_ev_bl, q_ev_int, q_ev_str, q_ev_con, q_ev_tup, q_ev_lst, q_ev_bin, q_ev_neg, q_ev_not, q_ev_cmp, q_ev_chain, q_ev_and, q_ev_or, q_ev_ifx, q_ev_ix, q_ev_sl, q_ev_call, q_ev_blt, q_ev_isi, q_ev_met, q_ev_tupS, q_ev_lstS, q_ev_rev, q_ev_dnew, q_ev_dzip, q_ev_fnv, q_ev_calv, q_ev_comp2, q_ev_dcomp, q_ev_sls, q_ev_val, q_evs_nil, q_evs_cons, q_evs_star, q_evD_nil, q_evD_cons, q_evAnd_cons, q_evAnd_cons2, q_evOr_cons, q_evOr_cons2, q_evIfs_none, q_evIfs_some, q_evo_none, q_evo_some, q_evi_ex, q_run1_ex, q_run1_set, q_run1_put, q_run1_aug, q_run1_augs, q_run1_ite, q_run1_whl, q_run1_for, q_run1_ret, q_run1_retN, q_run1_rais, q_run1_try, q_run1_brk, q_run1_cnt, q_run1_pas, q_runs_nil, q_runs_cons, q_runH_nil, q_runH_cons, tst, bltop, bindG, bindGs, cmpop, ofB, truthy, int1, int2, ltop, leop, binop, addop, subop, mulop, divop, modop, powop, ixop, items, litems, ditems, mkLst, mkDic, lenop, intop, isiop, tyOf, putop, src, wipeP, metop, metok, isLst, isDic, isStr, isLsq, isTp, appop, popL, getD, slop, revop, tupop, lstop, keyOf, inop, Aes.len, peq, scalP, eqF, isNon, isBl, augop, augix, -ixop, turnF, e1, e2, e3]) rs ("", none) lit
    rw [top_fold] at this
    exact ⟨_, (for_run rfl (by simp [body, q_ev_v, q_ev_non, q_ev_bl, q_ev_int, q_ev_str, q_ev_con, q_ev_tup, q_ev_lst, q_ev_bin, q_ev_neg, q_ev_not, q_ev_cmp, q_ev_chain, q_ev_and, q_ev_or, q_ev_ifx, q_ev_ix, q_ev_sl, q_ev_call, q_ev_blt, q_ev_isi, q_ev_met, q_ev_tupS, q_ev_lstS, q_ev_rev, q_ev_dnew, q_ev_dzip, q_ev_fnv, q_ev_calv, q_ev_comp2, q_ev_dcomp, q_ev_sls, q_ev_val, q_evs_nil, q_evs_cons, q_evs_star, q_evD_nil, q_evD_cons, q_evAnd_cons, q_evAnd_cons2, q_evOr_cons, q_evOr_cons2, q_evIfs_none, q_evIfs_some, q_evo_none, q_evo_some, q_evi_ex, q_run1_ex, q_run1_set, q_run1_put, q_run1_aug, q_run1_augs, q_run1_ite, q_run1_whl, q_run1_for, q_run1_ret, q_run1_retN, q_run1_rais, q_run1_try, q_run1_brk, q_run1_cnt, q_run1_pas, q_runs_nil, q_runs_cons, q_runH_nil, q_runH_cons, tst, bltop, bindG, bindGs, cmpop, ofB, truthy, int1, int2, ltop, leop, binop, addop, subop, mulop, divop, modop, powop, ixop, items, litems, ditems, mkLst, mkDic, lenop, intop, isiop, tyOf, putop, src, wipeP, metop, metok, isLst, isDic, isStr, isLsq, isTp, appop, popL, getD, slop, revop, tupop, lstop, keyOf, inop, Aes.len, peq, scalP, eqF, isNon, isBl, augop, augix])).trans this⟩
  obtain ⟨w, el⟩ := el
  generalize rs.map nr = RS at *
  simp [body, q_ev_v, q_ev_non, q_ev_bl, q_ev_int, q_ev_str, q_ev_con, q_ev_tup, q_ev_lst, q_ev_bin, q_ev_neg, q_ev_not, q_ev_cmp, q_ev_chain, q_ev_and, q_ev_or, q_ev_ifx, q_ev_ix, q_ev_sl, q_ev_call, q_ev_blt, q_ev_isi, q_ev_met, q_ev_tupS, q_ev_lstS, q_ev_rev, q_ev_dnew, q_ev_dzip, q_ev_fnv, q_ev_calv, q_ev_comp2, q_ev_dcomp, q_ev_sls, q_ev_val, q_evs_nil, q_evs_cons, q_evs_star, q_evD_nil, q_evD_cons, q_evAnd_cons, q_evAnd_cons2, q_evOr_cons, q_evOr_cons2, q_evIfs_none, q_evIfs_some, q_evo_none, q_evo_some, q_evi_ex, q_run1_ex, q_run1_set, q_run1_put, q_run1_aug, q_run1_augs, q_run1_ite, q_run1_whl, q_run1_for, q_run1_ret, q_run1_retN, q_run1_rais, q_run1_try, q_run1_brk, q_run1_cnt, q_run1_pas, q_runs_nil, q_runs_cons, q_runH_nil, q_runH_cons, tst, bltop, bindG, bindGs, cmpop, ofB, truthy, int1, int2, ltop, leop, binop, addop, subop, mulop, divop, modop, powop, ixop, items, litems, ditems, mkLst, mkDic, lenop, intop, isiop, tyOf, putop, src, wipeP, metop, metok, isLst, isDic, isStr, isLsq, isTp, appop, popL, getD, slop, revop, tupop, lstop, keyOf, inop, Aes.len, peq, scalP, eqF, isNon, isBl, augop, augix, f_top_name, el]
  exact end_rt
theorem s_hit {PG : Pg} [Has PG "hit" f_hit] [Has PG "numbered" f_numbered] [Has PG "is_integer" f_is_integer] [Has PG "is_ascending" f_is_ascending] [Has PG "is_number" f_is_number] [Has PG "is_pair" f_is_pair] [Has PG "lowest" f_lowest] [Has PG "is_row" f_is_row] [Has PG "is_name" f_is_name] [Has PG "as_number" f_as_number] [Has PG "top_name" f_top_name] [Has PG "covers" f_covers] [Has PG "is_less" f_is_less] [Has PG "along" f_along] [Has PG "sum_of_two" f_sum_of_two] [HasC PG "AXES" (.tup [(.str "across"), (.str "down")])] [HasC PG "LETTERS" (.str "abcdefghijklmnopqrstuvwxyz")] [HasC PG "MOST_NAME" (.int 8)] {n : Nat} (hn : 6 ≤ n) (h : MH) {rs : List Rw} (s : Scr rs) (x y : Int) (hx : Lit x) (hy : Lit y) : call PG n "hit" [.tup (rs.map rwP), .int x, .int y] [] [] h = .ok (.str (topR rs x y)) h := by
  rw [call_ge (by omega) rfl]
  have e1 := s_numbered (PG := PG) (n := n - 1) (by omega) h s
  have e2 := s_top_name (PG := PG) (n := n - 1) (by omega) h s.lit x y hx hy
  generalize rs.map rwP = RS at *
  generalize rs.map nr = RN at *
  simp [body, q_ev_v, q_ev_non, q_ev_bl, q_ev_int, q_ev_str, q_ev_con, q_ev_tup, q_ev_lst, q_ev_bin, q_ev_neg, q_ev_not, q_ev_cmp, q_ev_chain, q_ev_and, q_ev_or, q_ev_ifx, q_ev_ix, q_ev_sl, q_ev_call, q_ev_blt, q_ev_isi, q_ev_met, q_ev_tupS, q_ev_lstS, q_ev_rev, q_ev_dnew, q_ev_dzip, q_ev_fnv, q_ev_calv, q_ev_comp2, q_ev_dcomp, q_ev_sls, q_ev_val, q_evs_nil, q_evs_cons, q_evs_star, q_evD_nil, q_evD_cons, q_evAnd_cons, q_evAnd_cons2, q_evOr_cons, q_evOr_cons2, q_evIfs_none, q_evIfs_some, q_evo_none, q_evo_some, q_evi_ex, q_run1_ex, q_run1_set, q_run1_put, q_run1_aug, q_run1_augs, q_run1_ite, q_run1_whl, q_run1_for, q_run1_ret, q_run1_retN, q_run1_rais, q_run1_try, q_run1_brk, q_run1_cnt, q_run1_pas, q_runs_nil, q_runs_cons, q_runH_nil, q_runH_cons, tst, bltop, bindG, bindGs, cmpop, ofB, truthy, int1, int2, ltop, leop, binop, addop, subop, mulop, divop, modop, powop, ixop, items, litems, ditems, mkLst, mkDic, lenop, intop, isiop, tyOf, putop, src, wipeP, metop, metok, isLst, isDic, isStr, isLsq, isTp, appop, popL, getD, slop, revop, tupop, lstop, keyOf, inop, Aes.len, peq, scalP, eqF, isNon, isBl, augop, augix, f_hit, e1, e2]
  exact end_rt
end Mx.FB

end

section
set_option Elab.async false
set_option linter.all false
set_option maxRecDepth 100000
set_option maxHeartbeats 4000000
set_option exponentiation.threshold 20000
namespace Mx.FB
open PySem PySem.Spec PyProof.Rows L2 Mx

theorem app_toList (x y : Str) : (x ++ y).cps.toList = x.cps.toList ++ y.cps.toList := by
  show (x.cps ++ y.cps).toList = _
  simp
/-- the sign of a name -/
def sgc (s : Str) : Nat := (s.cps.toList ++ [46]).headD 46
def ch (c : Nat) : PV := .str ⟨#[c]⟩
instance (c : Nat) : Dt (ch c) := inferInstanceAs (Dt (.str ⟨#[c]⟩))
theorem dot_eq : (".": Str) = ⟨#[46]⟩ := rfl
theorem emp_iff {s : Str} : s = "" ↔ s.cps.toList = [] := by
  constructor
  · rintro rfl; rfl
  · intro e
    obtain ⟨c⟩ := s
    have : c = #[] := by
      apply Array.toList_inj.mp; exact e
    subst this; rfl
theorem sg_emp : sgc "" = 46 := rfl
theorem sg_ix {s : Str} (hs : s ≠ "") (hl : s.length ≤ 8) (h : MH) : ixop (.str s) (.int 0) h = .ok (ch (sgc s)) h := by
  have lx : s.length ≤ sizeLine := small (b := 8) hl (by decide)
  cases e : s.cps.toList with
  | nil => exact absurd (emp_iff.mpr e) hs
  | cons c r =>
    have e1 : sgc s = c := by unfold sgc; rw [e]; rfl
    have e2 : atI s.cps.toList 0 = some c := by
      rw [e, show (0 : Int) = ((0 : Nat) : Int) from rfl, atI_nat (by simp)]; rfl
    simp only [ixop]
    rw [if_pos lx, e2, e1]; rfl
theorem sg_ix2 {s : Str} (hl : s.length ≤ 8) (h : MH) : ixop (.str (s ++ ".")) (.int 0) h = .ok (ch (sgc s)) h := by
  have ll : (s ++ ("." : Str)).length = s.length + 1 := by
    rw [len_cps, app_toList, List.length_append, ← len_cps]; rfl
  have lx : (s ++ ("." : Str)).length ≤ sizeLine := small (b := 9) (by omega) (by decide)
  have e2 : atI (s ++ ("." : Str)).cps.toList 0 = some (sgc s) := by
    rw [app_toList]
    have : ("." : Str).cps.toList = [46] := rfl
    rw [this]
    unfold sgc
    cases s.cps.toList with
    | nil => rfl
    | cons c r => rw [show (0 : Int) = ((0 : Nat) : Int) from rfl, atI_nat (by simp)]; rfl
  simp only [ixop]
  rw [if_pos lx, e2]; rfl
theorem peq_str (h : MH) (a b : Str) : peq h (.str a) (.str b) = some (decide (a = b)) := by
  by_cases c : a = b
  · subst c; simp [peq, scalP, eqF]
  · have : (a == b) = false := beq_eq_false_iff_ne.mpr c
    simp [peq, scalP, eqF, c, this]
/-! the signs of a screen -/
def lnc (rs : List Rw) (W : Nat) (y : Int) : List Nat := (List.range W).map fun (x : Nat) => sgc (topR rs (x : Int) y)
def lnS (rs : List Rw) (W : Nat) (y : Int) : Str := ⟨(lnc rs W y).toArray⟩
def pic (rs : List Rw) (W H : Nat) : List Str := (List.range H).map fun (y : Nat) => lnS rs W (y : Int)
theorem top_len {rs : List Rw} (nm : ∀ r ∈ rs, isNm r.n = true ∧ r.n.length ≤ 8) (x y : Int) : (topR rs x y).length ≤ 8 := by
  unfold topR
  have : ∀ (rs : List Rw) (s : Str), s.length ≤ 8 → (∀ r ∈ rs, isNm r.n = true ∧ r.n.length ≤ 8) → (rs.foldl (fun s r => if cov r x y = true then r.n else s) s).length ≤ 8 := by
    intro rs
    induction rs with
    | nil => intro s hs _; exact hs
    | cons r rs ih =>
      intro s hs hr
      refine ih _ ?_ fun z hz => hr z (List.mem_cons_of_mem _ hz)
      show (if cov r x y = true then r.n else s).length ≤ 8
      split
      · exact (hr r List.mem_cons_self).2
      · exact hs
  exact this rs "" (by decide) nm
theorem join_ch : ∀ cs : List Nat, Txt.join "" (cs.map fun c => (⟨#[c]⟩ : Str)) = ⟨cs.toArray⟩ := by
  have key : ∀ cs : List Nat, (Txt.join "" (cs.map fun c => (⟨#[c]⟩ : Str))).cps.toList = cs := by
    intro cs
    show (Builtin.Str.glued "" _).cps.toList = _
    rw [StrLaws.glued_eq_join]
    induction cs with
    | nil => rfl
    | cons c cs ih =>
      cases cs with
      | nil => rfl
      | cons d cs =>
        rw [List.map_cons, List.map_cons] at *
        show ((⟨#[c]⟩ : Str) ++ "" ++ Str.join "" _).cps.toList = _
        rw [app_toList, ih, app_toList]
        rfl
  intro cs
  have := key cs
  generalize Txt.join "" (cs.map fun c => (⟨#[c]⟩ : Str)) = s at this
  obtain ⟨a⟩ := s
  have : a.toList = cs := this
  subst this
  simp
theorem strs_ch (cs : List Nat) : strsOf (cs.map ch) = some (cs.map fun c => (⟨#[c]⟩ : Str)) := by
  have : cs.map ch = (cs.map fun c => (⟨#[c]⟩ : Str)).map PV.str := by rw [List.map_map]; rfl
  rw [this, strs_map]
theorem join_op {cs : List Nat} (hl : cs.length ≤ 1000000) (h : MH) : joinop (.str "") (.lst (cs.map ch)) h = .ok (.str ⟨cs.toArray⟩) h := by
  unfold joinop
  simp only [items, strs_ch]
  have e0 : ("" : Str).length = 0 := rfl
  have e1 : ((cs.map fun c => (⟨#[c]⟩ : Str)).map (·.length)).sum = cs.length := by
    have : ∀ cs : List Nat, ((cs.map fun c => (⟨#[c]⟩ : Str)).map (·.length)).sum = cs.length := by
      intro cs
      induction cs with
      | nil => rfl
      | cons c cs ih => rw [List.map_cons, List.map_cons, List.sum_cons, ih, List.length_cons]; show 1 + _ = _; omega
    exact this cs
  rw [e1, e0, if_pos (by omega), join_ch]
theorem lit_nat {k : Nat} (h : k ≤ 1000) : Lit (k : Int) := by
  show (k : Int).natAbs < 2 ^ 40
  omega
theorem s_drawn {PG : Pg} [Has PG "drawn" f_drawn] [Has PG "is_integer" f_is_integer] [Has PG "numbered" f_numbered] [Has PG "is_ascending" f_is_ascending] [Has PG "is_number" f_is_number] [Has PG "is_pair" f_is_pair] [Has PG "lowest" f_lowest] [Has PG "is_row" f_is_row] [Has PG "is_name" f_is_name] [Has PG "as_number" f_as_number] [Has PG "top_name" f_top_name] [Has PG "covers" f_covers] [Has PG "is_less" f_is_less] [Has PG "along" f_along] [Has PG "sum_of_two" f_sum_of_two] [HasC PG "AXES" (.tup [(.str "across"), (.str "down")])] [HasC PG "LETTERS" (.str "abcdefghijklmnopqrstuvwxyz")] [HasC PG "MOST_NAME" (.int 8)] {n : Nat} (hn : 7 ≤ n) (h : MH) {rs : List Rw} (s : Scr rs) (W H : Nat) (hW : W ≤ 100) (hH : H ≤ 100) : call PG n "drawn" [.tup (rs.map rwP), .int (W : Int), .int (H : Int)] [] [] h = .ok (.ref h.length) (h ++ [.lst ((pic rs W H).map .str)]) := by
  rw [call_ge (by omega) rfl]
  have e1 := s_numbered (PG := PG) (n := n - 1) (by omega) h s
  have e2 : ∀ (x y : Nat), x ≤ 100 → y ≤ 100 → _ := fun x y hx hy => s_top_name (PG := PG) (n := n - 1) (by omega) h s.lit (x : Int) (y : Int) (lit_nat (by omega)) (lit_nat (by omega))
  generalize rs.map rwP = RS at *
  generalize rs.map nr = RN at *
  have el : ∃ w, run1 PG (call PG (n - 1)) l_drawn_1 [some (.tup RS), some (.int (W : Int)), some (.int (H : Int)), some (.lst RN), none, none, none, none, none, none] h = .nx [some (.tup RS), some (.int (W : Int)), some (.int (H : Int)), some (.lst RN), w, none, none, none, none, none] h := by
    have := for_fold (α := Int) (g := PV.int) (l := []) (body := turnF PG (call PG (n - 1)) (.nm 4) (.cons (.ite (.or (.cons (.not (.call "is_integer" (.cons (.v 4) .nil) [] .nil)) (.cons (.cmp .lt (.v 4) (.int 0)) .nil))) (.cons (.rais "InvalidNumber" (.v 4) false) .nil) .nil) .nil))
      (E := fun (s : Option PV) => [some (.tup RS), some (.int (W : Int)), some (.int (H : Int)), some (.lst RN), s, none, none, none, none, none]) (H := fun _ => h) (st := fun _ z => some (.int z)) (fun xs _ => ∀ z ∈ xs, (0 : Int) ≤ z) (fun _ => chk_nil) (fun z xs s j => by
        have z0 := j z List.mem_cons_self
        have z1 : ¬ z < 0 := by omega
        have e3 := s_is_integer (PG := PG) (n := n - 1) (by omega) h z
        exact ⟨by simp [body, q_ev_v, q_ev_non, q_ev_bl, q_ev_int, q_ev_str, q_ev_con, q_ev_tup, q_ev_lst, q_ev_bin, q_ev_neg, q_ev_not, q_ev_cmp, q_ev_chain, q_ev_and, q_ev_or, q_ev_ifx, q_ev_ix, q_ev_sl, q_ev_call, q_ev_blt, q_ev_isi, q_ev_met, q_ev_tupS, q_ev_lstS, q_ev_rev, q_ev_dnew, q_ev_dzip, q_ev_fnv, q_ev_calv, q_ev_comp2, q_ev_dcomp, q_ev_sls, q_ev_val, q_evs_nil, q_evs_cons, q_evs_star, q_evD_nil, q_evD_cons, q_evAnd_cons, q_evAnd_cons2, q_evOr_cons, q_evOr_cons2, q_evIfs_none, q_evIfs_some, q_evo_none, q_evo_some, q_evi_ex, q_run1_ex, q_run1_set, q_run1_put, q_run1_aug, q_run1_augs, q_run1_ite, q_run1_whl, q_run1_for, q_run1_ret, q_run1_retN, q_run1_rais, q_run1_try, q_run1_brk, q_run1_cnt, q_run1_pas, q_runs_nil, q_runs_cons, q_runH_nil, q_runH_cons, tst, bltop, bindG, bindGs, cmpop, ofB, truthy, int1, int2, ltop, leop, binop, addop, subop, mulop, divop, modop, powop, ixop, items, litems, ditems, mkLst, mkDic, lenop, intop, isiop, tyOf, putop, src, wipeP, metop, metok, isLst, isDic, isStr, isLsq, isTp, appop, popL, getD, slop, revop, tupop, lstop, keyOf, inop, Aes.len, peq, scalP, eqF, isNon, isBl, augop, augix, turnF, e3, z1], fun y hy => j y (List.mem_cons_of_mem _ hy)⟩) [(W : Int), (H : Int)] none (by simp)
    exact ⟨_, (for_run rfl (by simp [body, q_ev_v, q_ev_non, q_ev_bl, q_ev_int, q_ev_str, q_ev_con, q_ev_tup, q_ev_lst, q_ev_bin, q_ev_neg, q_ev_not, q_ev_cmp, q_ev_chain, q_ev_and, q_ev_or, q_ev_ifx, q_ev_ix, q_ev_sl, q_ev_call, q_ev_blt, q_ev_isi, q_ev_met, q_ev_tupS, q_ev_lstS, q_ev_rev, q_ev_dnew, q_ev_dzip, q_ev_fnv, q_ev_calv, q_ev_comp2, q_ev_dcomp, q_ev_sls, q_ev_val, q_evs_nil, q_evs_cons, q_evs_star, q_evD_nil, q_evD_cons, q_evAnd_cons, q_evAnd_cons2, q_evOr_cons, q_evOr_cons2, q_evIfs_none, q_evIfs_some, q_evo_none, q_evo_some, q_evi_ex, q_run1_ex, q_run1_set, q_run1_put, q_run1_aug, q_run1_augs, q_run1_ite, q_run1_whl, q_run1_for, q_run1_ret, q_run1_retN, q_run1_rais, q_run1_try, q_run1_brk, q_run1_cnt, q_run1_pas, q_runs_nil, q_runs_cons, q_runH_nil, q_runH_cons, tst, bltop, bindG, bindGs, cmpop, ofB, truthy, int1, int2, ltop, leop, binop, addop, subop, mulop, divop, modop, powop, ixop, items, litems, ditems, mkLst, mkDic, lenop, intop, isiop, tyOf, putop, src, wipeP, metop, metok, isLst, isDic, isStr, isLsq, isTp, appop, popL, getD, slop, revop, tupop, lstop, keyOf, inop, Aes.len, peq, scalP, eqF, isNon, isBl, augop, augix])).trans this⟩
  obtain ⟨w, el⟩ := el
  have ec2 : ∀ y : Nat, y < H → ev PG (call PG (n - 1)) c_drawn_2 [some (.tup RS), some (.int (W : Int)), some (.int (H : Int)), some (.lst RN), w, none, some (.int (y : Int)), none, none, none] h = .ok (.lst ((List.range W).map fun (x : Nat) => .str (topR rs (x : Int) (y : Int)))) h := fun y hy => by
    have hr := rng1 (P := PG) (cl := call PG (n - 1)) (e := .v 1) (ρ := [some (.tup RS), some (.int (W : Int)), some (.int (H : Int)), some (.lst RN), w, none, some (.int (y : Int)), none, none, none]) (h := h) (h' := h) (n := (W : Int)) (by simp [body, q_ev_v, q_ev_non, q_ev_bl, q_ev_int, q_ev_str, q_ev_con, q_ev_tup, q_ev_lst, q_ev_bin, q_ev_neg, q_ev_not, q_ev_cmp, q_ev_chain, q_ev_and, q_ev_or, q_ev_ifx, q_ev_ix, q_ev_sl, q_ev_call, q_ev_blt, q_ev_isi, q_ev_met, q_ev_tupS, q_ev_lstS, q_ev_rev, q_ev_dnew, q_ev_dzip, q_ev_fnv, q_ev_calv, q_ev_comp2, q_ev_dcomp, q_ev_sls, q_ev_val, q_evs_nil, q_evs_cons, q_evs_star, q_evD_nil, q_evD_cons, q_evAnd_cons, q_evAnd_cons2, q_evOr_cons, q_evOr_cons2, q_evIfs_none, q_evIfs_some, q_evo_none, q_evo_some, q_evi_ex, q_run1_ex, q_run1_set, q_run1_put, q_run1_aug, q_run1_augs, q_run1_ite, q_run1_whl, q_run1_for, q_run1_ret, q_run1_retN, q_run1_rais, q_run1_try, q_run1_brk, q_run1_cnt, q_run1_pas, q_runs_nil, q_runs_cons, q_runH_nil, q_runH_cons, tst, bltop, bindG, bindGs, cmpop, ofB, truthy, int1, int2, ltop, leop, binop, addop, subop, mulop, divop, modop, powop, ixop, items, litems, ditems, mkLst, mkDic, lenop, intop, isiop, tyOf, putop, src, wipeP, metop, metok, isLst, isDic, isStr, isLsq, isTp, appop, popL, getD, slop, revop, tupop, lstop, keyOf, inop, Aes.len, peq, scalP, eqF, isNon, isBl, augop, augix]) (by omega)
    rw [Int.toNat_natCast] at hr
    have := comp_mp (P := PG) (cl := call PG (n - 1)) (elt := (.call "top_name" (.cons (.v 3) (.cons (.v 7) (.cons (.v 6) .nil))) [] .nil)) (gt := (.nm 7)) (it := (.range1 (.v 1))) (ifs := .none) (own := [("x", 7)]) (ρ := [some (.tup RS), some (.int (W : Int)), some (.int (H : Int)), some (.lst RN), w, none, some (.int (y : Int)), none, none, none]) (h := h) (h' := h) (l := []) (g := fun (k : Nat) => PV.int (k : Int)) (xs := List.range W) (f := fun (x : Nat) => .str (topR rs (x : Int) (y : Int)))
      hr chk_nil (by rw [List.length_range]; exact small (b := 100) hW (by decide)) (fun x hx => by
        have hx := List.mem_range.mp hx
        have e3 := e2 x y (by omega) (by omega)
        simp [body, q_ev_v, q_ev_non, q_ev_bl, q_ev_int, q_ev_str, q_ev_con, q_ev_tup, q_ev_lst, q_ev_bin, q_ev_neg, q_ev_not, q_ev_cmp, q_ev_chain, q_ev_and, q_ev_or, q_ev_ifx, q_ev_ix, q_ev_sl, q_ev_call, q_ev_blt, q_ev_isi, q_ev_met, q_ev_tupS, q_ev_lstS, q_ev_rev, q_ev_dnew, q_ev_dzip, q_ev_fnv, q_ev_calv, q_ev_comp2, q_ev_dcomp, q_ev_sls, q_ev_val, q_evs_nil, q_evs_cons, q_evs_star, q_evD_nil, q_evD_cons, q_evAnd_cons, q_evAnd_cons2, q_evOr_cons, q_evOr_cons2, q_evIfs_none, q_evIfs_some, q_evo_none, q_evo_some, q_evi_ex, q_run1_ex, q_run1_set, q_run1_put, q_run1_aug, q_run1_augs, q_run1_ite, q_run1_whl, q_run1_for, q_run1_ret, q_run1_retN, q_run1_rais, q_run1_try, q_run1_brk, q_run1_cnt, q_run1_pas, q_runs_nil, q_runs_cons, q_runH_nil, q_runH_cons, tst, bltop, bindG, bindGs, cmpop, ofB, truthy, int1, int2, ltop, leop, binop, addop, subop, mulop, divop, modop, powop, ixop, items, litems, ditems, mkLst, mkDic, lenop, intop, isiop, tyOf, putop, src, wipeP, metop, metok, isLst, isDic, isStr, isLsq, isTp, appop, popL, getD, slop, revop, tupop, lstop, keyOf, inop, Aes.len, peq, scalP, eqF, isNon, isBl, augop, augix, turnC, e3]) false
    exact this
  have ec3 : ev PG (call PG (n - 1)) c_drawn_3 [some (.tup RS), some (.int (W : Int)), some (.int (H : Int)), some (.lst RN), w, none, none, none, none, none] h = .ok (.lst ((List.range H).map fun (y : Nat) => .lst ((List.range W).map fun (x : Nat) => .str (topR rs (x : Int) (y : Int))))) h := by
    have hr := rng1 (P := PG) (cl := call PG (n - 1)) (e := .v 2) (ρ := [some (.tup RS), some (.int (W : Int)), some (.int (H : Int)), some (.lst RN), w, none, none, none, none, none]) (h := h) (h' := h) (n := (H : Int)) (by simp [body, q_ev_v, q_ev_non, q_ev_bl, q_ev_int, q_ev_str, q_ev_con, q_ev_tup, q_ev_lst, q_ev_bin, q_ev_neg, q_ev_not, q_ev_cmp, q_ev_chain, q_ev_and, q_ev_or, q_ev_ifx, q_ev_ix, q_ev_sl, q_ev_call, q_ev_blt, q_ev_isi, q_ev_met, q_ev_tupS, q_ev_lstS, q_ev_rev, q_ev_dnew, q_ev_dzip, q_ev_fnv, q_ev_calv, q_ev_comp2, q_ev_dcomp, q_ev_sls, q_ev_val, q_evs_nil, q_evs_cons, q_evs_star, q_evD_nil, q_evD_cons, q_evAnd_cons, q_evAnd_cons2, q_evOr_cons, q_evOr_cons2, q_evIfs_none, q_evIfs_some, q_evo_none, q_evo_some, q_evi_ex, q_run1_ex, q_run1_set, q_run1_put, q_run1_aug, q_run1_augs, q_run1_ite, q_run1_whl, q_run1_for, q_run1_ret, q_run1_retN, q_run1_rais, q_run1_try, q_run1_brk, q_run1_cnt, q_run1_pas, q_runs_nil, q_runs_cons, q_runH_nil, q_runH_cons, tst, bltop, bindG, bindGs, cmpop, ofB, truthy, int1, int2, ltop, leop, binop, addop, subop, mulop, divop, modop, powop, ixop, items, litems, ditems, mkLst, mkDic, lenop, intop, isiop, tyOf, putop, src, wipeP, metop, metok, isLst, isDic, isStr, isLsq, isTp, appop, popL, getD, slop, revop, tupop, lstop, keyOf, inop, Aes.len, peq, scalP, eqF, isNon, isBl, augop, augix]) (by omega)
    rw [Int.toNat_natCast] at hr
    have := comp_mp (P := PG) (cl := call PG (n - 1)) (elt := c_drawn_2) (gt := (.nm 6)) (it := (.range1 (.v 2))) (ifs := .none) (own := [("y", 6)]) (ρ := [some (.tup RS), some (.int (W : Int)), some (.int (H : Int)), some (.lst RN), w, none, none, none, none, none]) (h := h) (h' := h) (l := []) (g := fun (k : Nat) => PV.int (k : Int)) (xs := List.range H) (f := fun (y : Nat) => .lst ((List.range W).map fun (x : Nat) => .str (topR rs (x : Int) (y : Int))))
      hr chk_nil (by rw [List.length_range]; exact small (b := 100) hH (by decide)) (fun y hy => by
        have e3 := ec2 y (List.mem_range.mp hy)
        simp [body, q_ev_v, q_ev_non, q_ev_bl, q_ev_int, q_ev_str, q_ev_con, q_ev_tup, q_ev_lst, q_ev_bin, q_ev_neg, q_ev_not, q_ev_cmp, q_ev_chain, q_ev_and, q_ev_or, q_ev_ifx, q_ev_ix, q_ev_sl, q_ev_call, q_ev_blt, q_ev_isi, q_ev_met, q_ev_tupS, q_ev_lstS, q_ev_rev, q_ev_dnew, q_ev_dzip, q_ev_fnv, q_ev_calv, q_ev_comp2, q_ev_dcomp, q_ev_sls, q_ev_val, q_evs_nil, q_evs_cons, q_evs_star, q_evD_nil, q_evD_cons, q_evAnd_cons, q_evAnd_cons2, q_evOr_cons, q_evOr_cons2, q_evIfs_none, q_evIfs_some, q_evo_none, q_evo_some, q_evi_ex, q_run1_ex, q_run1_set, q_run1_put, q_run1_aug, q_run1_augs, q_run1_ite, q_run1_whl, q_run1_for, q_run1_ret, q_run1_retN, q_run1_rais, q_run1_try, q_run1_brk, q_run1_cnt, q_run1_pas, q_runs_nil, q_runs_cons, q_runH_nil, q_runH_cons, tst, bltop, bindG, bindGs, cmpop, ofB, truthy, int1, int2, ltop, leop, binop, addop, subop, mulop, divop, modop, powop, ixop, items, litems, ditems, mkLst, mkDic, lenop, intop, isiop, tyOf, putop, src, wipeP, metop, metok, isLst, isDic, isStr, isLsq, isTp, appop, popL, getD, slop, revop, tupop, lstop, keyOf, inop, Aes.len, peq, scalP, eqF, isNon, isBl, augop, augix, turnC, e3]) false
    exact this
  have ec4 : ∀ y : Nat, y < H → ∀ V, ev PG (call PG (n - 1)) c_drawn_4 [some (.tup RS), some (.int (W : Int)), some (.int (H : Int)), some (.lst RN), w, V, none, none, some (.lst ((List.range W).map fun (x : Nat) => .str (topR rs (x : Int) (y : Int)))), none] h = .ok (.lst ((lnc rs W (y : Int)).map ch)) h := fun y hy V => by
    have := comp_mp (P := PG) (cl := call PG (n - 1)) (elt := (.ifx (.cmp .ne (.v 9) (.str "")) (.ix (.v 9) (.int 0)) (.str "."))) (gt := (.nm 9)) (it := (.ex (.v 8))) (ifs := .none) (own := [("name", 9)]) (ρ := [some (.tup RS), some (.int (W : Int)), some (.int (H : Int)), some (.lst RN), w, V, none, none, some (.lst ((List.range W).map fun (x : Nat) => .str (topR rs (x : Int) (y : Int)))), none]) (h := h) (h' := h) (l := []) (g := fun (x : Nat) => PV.str (topR rs (x : Int) (y : Int))) (xs := List.range W) (f := fun (x : Nat) => ch (sgc (topR rs (x : Int) (y : Int))))
      (by simp [body, q_ev_v, q_ev_non, q_ev_bl, q_ev_int, q_ev_str, q_ev_con, q_ev_tup, q_ev_lst, q_ev_bin, q_ev_neg, q_ev_not, q_ev_cmp, q_ev_chain, q_ev_and, q_ev_or, q_ev_ifx, q_ev_ix, q_ev_sl, q_ev_call, q_ev_blt, q_ev_isi, q_ev_met, q_ev_tupS, q_ev_lstS, q_ev_rev, q_ev_dnew, q_ev_dzip, q_ev_fnv, q_ev_calv, q_ev_comp2, q_ev_dcomp, q_ev_sls, q_ev_val, q_evs_nil, q_evs_cons, q_evs_star, q_evD_nil, q_evD_cons, q_evAnd_cons, q_evAnd_cons2, q_evOr_cons, q_evOr_cons2, q_evIfs_none, q_evIfs_some, q_evo_none, q_evo_some, q_evi_ex, q_run1_ex, q_run1_set, q_run1_put, q_run1_aug, q_run1_augs, q_run1_ite, q_run1_whl, q_run1_for, q_run1_ret, q_run1_retN, q_run1_rais, q_run1_try, q_run1_brk, q_run1_cnt, q_run1_pas, q_runs_nil, q_runs_cons, q_runH_nil, q_runH_cons, tst, bltop, bindG, bindGs, cmpop, ofB, truthy, int1, int2, ltop, leop, binop, addop, subop, mulop, divop, modop, powop, ixop, items, litems, ditems, mkLst, mkDic, lenop, intop, isiop, tyOf, putop, src, wipeP, metop, metok, isLst, isDic, isStr, isLsq, isTp, appop, popL, getD, slop, revop, tupop, lstop, keyOf, inop, Aes.len, peq, scalP, eqF, isNon, isBl, augop, augix]) chk_nil (by rw [List.length_range]; exact small (b := 100) hW (by decide)) (fun x hx => by
        have tl := top_len s.nm (x : Int) (y : Int)
        generalize topR rs (x : Int) (y : Int) = t at *
        have ep := peq_str h t ""
        by_cases c : t = ""
        · rw [decide_eq_true c] at ep
          simp [body, q_ev_v, q_ev_non, q_ev_bl, q_ev_int, q_ev_str, q_ev_con, q_ev_tup, q_ev_lst, q_ev_bin, q_ev_neg, q_ev_not, q_ev_cmp, q_ev_chain, q_ev_and, q_ev_or, q_ev_ifx, q_ev_ix, q_ev_sl, q_ev_call, q_ev_blt, q_ev_isi, q_ev_met, q_ev_tupS, q_ev_lstS, q_ev_rev, q_ev_dnew, q_ev_dzip, q_ev_fnv, q_ev_calv, q_ev_comp2, q_ev_dcomp, q_ev_sls, q_ev_val, q_evs_nil, q_evs_cons, q_evs_star, q_evD_nil, q_evD_cons, q_evAnd_cons, q_evAnd_cons2, q_evOr_cons, q_evOr_cons2, q_evIfs_none, q_evIfs_some, q_evo_none, q_evo_some, q_evi_ex, q_run1_ex, q_run1_set, q_run1_put, q_run1_aug, q_run1_augs, q_run1_ite, q_run1_whl, q_run1_for, q_run1_ret, q_run1_retN, q_run1_rais, q_run1_try, q_run1_brk, q_run1_cnt, q_run1_pas, q_runs_nil, q_runs_cons, q_runH_nil, q_runH_cons, tst, bltop, bindG, bindGs, cmpop, ofB, truthy, int1, int2, ltop, leop, binop, addop, subop, mulop, divop, modop, powop, ixop, items, litems, ditems, mkLst, mkDic, lenop, intop, isiop, tyOf, putop, src, wipeP, metop, metok, isLst, isDic, isStr, isLsq, isTp, appop, popL, getD, slop, revop, tupop, lstop, keyOf, inop, Aes.len, peq, scalP, eqF, isNon, isBl, augop, augix, -peq, -ixop, turnC, ep]
          rw [c]; rfl
        · rw [decide_eq_false c] at ep
          have ei := sg_ix c tl h
          simp [body, q_ev_v, q_ev_non, q_ev_bl, q_ev_int, q_ev_str, q_ev_con, q_ev_tup, q_ev_lst, q_ev_bin, q_ev_neg, q_ev_not, q_ev_cmp, q_ev_chain, q_ev_and, q_ev_or, q_ev_ifx, q_ev_ix, q_ev_sl, q_ev_call, q_ev_blt, q_ev_isi, q_ev_met, q_ev_tupS, q_ev_lstS, q_ev_rev, q_ev_dnew, q_ev_dzip, q_ev_fnv, q_ev_calv, q_ev_comp2, q_ev_dcomp, q_ev_sls, q_ev_val, q_evs_nil, q_evs_cons, q_evs_star, q_evD_nil, q_evD_cons, q_evAnd_cons, q_evAnd_cons2, q_evOr_cons, q_evOr_cons2, q_evIfs_none, q_evIfs_some, q_evo_none, q_evo_some, q_evi_ex, q_run1_ex, q_run1_set, q_run1_put, q_run1_aug, q_run1_augs, q_run1_ite, q_run1_whl, q_run1_for, q_run1_ret, q_run1_retN, q_run1_rais, q_run1_try, q_run1_brk, q_run1_cnt, q_run1_pas, q_runs_nil, q_runs_cons, q_runH_nil, q_runH_cons, tst, bltop, bindG, bindGs, cmpop, ofB, truthy, int1, int2, ltop, leop, binop, addop, subop, mulop, divop, modop, powop, ixop, items, litems, ditems, mkLst, mkDic, lenop, intop, isiop, tyOf, putop, src, wipeP, metop, metok, isLst, isDic, isStr, isLsq, isTp, appop, popL, getD, slop, revop, tupop, lstop, keyOf, inop, Aes.len, peq, scalP, eqF, isNon, isBl, augop, augix, -peq, -ixop, turnC, ep, ei]) false
    refine this.trans ?_
    simp [mkLst, lnc, Function.comp_def]
  have ec5 : ev PG (call PG (n - 1)) c_drawn_5 [some (.tup RS), some (.int (W : Int)), some (.int (H : Int)), some (.lst RN), w, some (.lst ((List.range H).map fun (y : Nat) => .lst ((List.range W).map fun (x : Nat) => .str (topR rs (x : Int) (y : Int))))), none, none, none, none] h = .ok (.ref h.length) (h ++ [.lst ((pic rs W H).map .str)]) := by
    have := comp_mp (P := PG) (cl := call PG (n - 1)) (elt := (.met .join false (.str "") (.cons c_drawn_4 .nil))) (gt := (.nm 8)) (it := (.ex (.v 5))) (ifs := .none) (own := [("line", 8)]) (ρ := [some (.tup RS), some (.int (W : Int)), some (.int (H : Int)), some (.lst RN), w, some (.lst ((List.range H).map fun (y : Nat) => .lst ((List.range W).map fun (x : Nat) => .str (topR rs (x : Int) (y : Int))))), none, none, none, none]) (h := h) (h' := h) (l := []) (g := fun (y : Nat) => .lst ((List.range W).map fun (x : Nat) => PV.str (topR rs (x : Int) (y : Int)))) (xs := List.range H) (f := fun (y : Nat) => .str (lnS rs W (y : Int)))
      (by simp [body, q_ev_v, q_ev_non, q_ev_bl, q_ev_int, q_ev_str, q_ev_con, q_ev_tup, q_ev_lst, q_ev_bin, q_ev_neg, q_ev_not, q_ev_cmp, q_ev_chain, q_ev_and, q_ev_or, q_ev_ifx, q_ev_ix, q_ev_sl, q_ev_call, q_ev_blt, q_ev_isi, q_ev_met, q_ev_tupS, q_ev_lstS, q_ev_rev, q_ev_dnew, q_ev_dzip, q_ev_fnv, q_ev_calv, q_ev_comp2, q_ev_dcomp, q_ev_sls, q_ev_val, q_evs_nil, q_evs_cons, q_evs_star, q_evD_nil, q_evD_cons, q_evAnd_cons, q_evAnd_cons2, q_evOr_cons, q_evOr_cons2, q_evIfs_none, q_evIfs_some, q_evo_none, q_evo_some, q_evi_ex, q_run1_ex, q_run1_set, q_run1_put, q_run1_aug, q_run1_augs, q_run1_ite, q_run1_whl, q_run1_for, q_run1_ret, q_run1_retN, q_run1_rais, q_run1_try, q_run1_brk, q_run1_cnt, q_run1_pas, q_runs_nil, q_runs_cons, q_runH_nil, q_runH_cons, tst, bltop, bindG, bindGs, cmpop, ofB, truthy, int1, int2, ltop, leop, binop, addop, subop, mulop, divop, modop, powop, ixop, items, litems, ditems, mkLst, mkDic, lenop, intop, isiop, tyOf, putop, src, wipeP, metop, metok, isLst, isDic, isStr, isLsq, isTp, appop, popL, getD, slop, revop, tupop, lstop, keyOf, inop, Aes.len, peq, scalP, eqF, isNon, isBl, augop, augix]) chk_nil (by rw [List.length_range]; exact small (b := 100) hH (by decide)) (fun y hy => by
        have e3 := ec4 y (List.mem_range.mp hy) (some (.lst ((List.range H).map fun (y : Nat) => .lst ((List.range W).map fun (x : Nat) => .str (topR rs (x : Int) (y : Int))))))
        have ej := join_op (cs := lnc rs W (y : Int)) (by unfold lnc; simp; omega) h
        generalize (List.range H).map (fun (y : Nat) => PV.lst ((List.range W).map fun (x : Nat) => .str (topR rs (x : Int) (y : Int)))) = A at *
        generalize (List.range W).map (fun (x : Nat) => PV.str (topR rs (x : Int) (y : Int))) = B at *
        generalize (lnc rs W (y : Int)).map ch = C at *
        simp [body, q_ev_v, q_ev_non, q_ev_bl, q_ev_int, q_ev_str, q_ev_con, q_ev_tup, q_ev_lst, q_ev_bin, q_ev_neg, q_ev_not, q_ev_cmp, q_ev_chain, q_ev_and, q_ev_or, q_ev_ifx, q_ev_ix, q_ev_sl, q_ev_call, q_ev_blt, q_ev_isi, q_ev_met, q_ev_tupS, q_ev_lstS, q_ev_rev, q_ev_dnew, q_ev_dzip, q_ev_fnv, q_ev_calv, q_ev_comp2, q_ev_dcomp, q_ev_sls, q_ev_val, q_evs_nil, q_evs_cons, q_evs_star, q_evD_nil, q_evD_cons, q_evAnd_cons, q_evAnd_cons2, q_evOr_cons, q_evOr_cons2, q_evIfs_none, q_evIfs_some, q_evo_none, q_evo_some, q_evi_ex, q_run1_ex, q_run1_set, q_run1_put, q_run1_aug, q_run1_augs, q_run1_ite, q_run1_whl, q_run1_for, q_run1_ret, q_run1_retN, q_run1_rais, q_run1_try, q_run1_brk, q_run1_cnt, q_run1_pas, q_runs_nil, q_runs_cons, q_runH_nil, q_runH_cons, tst, bltop, bindG, bindGs, cmpop, ofB, truthy, int1, int2, ltop, leop, binop, addop, subop, mulop, divop, modop, powop, ixop, items, litems, ditems, mkLst, mkDic, lenop, intop, isiop, tyOf, putop, src, wipeP, metop, metok, isLst, isDic, isStr, isLsq, isTp, appop, popL, getD, slop, revop, tupop, lstop, keyOf, inop, Aes.len, peq, scalP, eqF, isNon, isBl, augop, augix, turnC, e3, ej, lnS]) true
    refine this.trans ?_
    simp [mkLst, pic, Function.comp_def]
  generalize (List.range H).map (fun (y : Nat) => PV.lst ((List.range W).map fun (x : Nat) => .str (topR rs (x : Int) (y : Int)))) = A at *
  generalize (pic rs W H).map PV.str = B at *
  simp [body, q_ev_v, q_ev_non, q_ev_bl, q_ev_int, q_ev_str, q_ev_con, q_ev_tup, q_ev_lst, q_ev_bin, q_ev_neg, q_ev_not, q_ev_cmp, q_ev_chain, q_ev_and, q_ev_or, q_ev_ifx, q_ev_ix, q_ev_sl, q_ev_call, q_ev_blt, q_ev_isi, q_ev_met, q_ev_tupS, q_ev_lstS, q_ev_rev, q_ev_dnew, q_ev_dzip, q_ev_fnv, q_ev_calv, q_ev_comp2, q_ev_dcomp, q_ev_sls, q_ev_val, q_evs_nil, q_evs_cons, q_evs_star, q_evD_nil, q_evD_cons, q_evAnd_cons, q_evAnd_cons2, q_evOr_cons, q_evOr_cons2, q_evIfs_none, q_evIfs_some, q_evo_none, q_evo_some, q_evi_ex, q_run1_ex, q_run1_set, q_run1_put, q_run1_aug, q_run1_augs, q_run1_ite, q_run1_whl, q_run1_for, q_run1_ret, q_run1_retN, q_run1_rais, q_run1_try, q_run1_brk, q_run1_cnt, q_run1_pas, q_runs_nil, q_runs_cons, q_runH_nil, q_runH_cons, tst, bltop, bindG, bindGs, cmpop, ofB, truthy, int1, int2, ltop, leop, binop, addop, subop, mulop, divop, modop, powop, ixop, items, litems, ditems, mkLst, mkDic, lenop, intop, isiop, tyOf, putop, src, wipeP, metop, metok, isLst, isDic, isStr, isLsq, isTp, appop, popL, getD, slop, revop, tupop, lstop, keyOf, inop, Aes.len, peq, scalP, eqF, isNon, isBl, augop, augix, f_drawn, e1, el, ec3, ec5]
  exact res_kp
end Mx.FB

end

section
set_option Elab.async false
set_option linter.all false
set_option maxRecDepth 100000
set_option maxHeartbeats 4000000
set_option exponentiation.threshold 20000
namespace Mx.FB
open PySem PySem.Spec PyProof.Rows L2 Mx

/-! the law's own drawing -/
theorem s_law_top {PG : Pg} [Has PG "_law_top" f_law_top] {n : Nat} (hn : 1 ≤ n) (h : MH) (rs : List Rw) (x y : Int) : call PG n "_law_top" [.tup (rs.map rwP), .int x, .int y] [] [] h = .ok (.str (topR rs x y)) h := by
  rw [call_ge (by omega) rfl]
  have el : ∃ w4 w5 w6 w7 w8, run1 PG (call PG (n - 1)) l_law_top_1 [some (.tup (rs.map rwP)), some (.int x), some (.int y), some (.str ""), none, none, none, none, none] h = .nx [some (.tup (rs.map rwP)), some (.int x), some (.int y), some (.str (topR rs x y)), w4, w5, w6, w7, w8] h := by
    obtain ⟨ρ', hh, e, s, w4, w5, w6, w7, w8, rfl, rfl, q⟩ := for_rel (α := Rw) (g := rwP) (l := []) (body := turnF PG (call PG (n - 1)) (.tp (.cons (.nm 4) (.cons (.nm 5) (.cons (.nm 6) (.cons (.nm 7) (.cons (.nm 8) .nil)))))) (.cons (.ite (.and (.cons (.cmp .le (.v 5) (.v 1)) (.cons (.cmp .lt (.v 1) (.bin .add false (.v 5) (.v 7))) (.cons (.cmp .le (.v 6) (.v 2)) (.cons (.cmp .lt (.v 2) (.bin .add false (.v 6) (.v 8))) .nil))))) (.cons (.set (.nm 3) (.v 4)) .nil) .nil) .nil))
      (fun xs ρ hh => ∃ (s : Str) (w4 w5 w6 w7 w8 : Option PV), ρ = [some (.tup (rs.map rwP)), some (.int x), some (.int y), some (.str s), w4, w5, w6, w7, w8] ∧ hh = h ∧ xs.foldl (fun s r => if cov r x y = true then r.n else s) s = topR rs x y) (fun _ _ _ _ => chk_nil) (fun r xs ρ hh ⟨s, w4, w5, w6, w7, w8, r1, r2, q⟩ => by
        subst r1; subst r2
        refine ⟨[some (.tup (rs.map rwP)), some (.int x), some (.int y), some (.str (if cov r x y = true then r.n else s)), some (.str r.n), some (.int r.l), some (.int r.u), some (.int r.w), some (.int r.h)], _, .inl ?_, _, _, _, _, _, _, rfl, rfl, q⟩
        generalize rs.map rwP = RS
        unfold cov rwP
        by_cases c1 : r.l ≤ x <;> by_cases c2 : x < r.l + r.w <;> by_cases c3 : r.u ≤ y <;> by_cases c4 : y < r.u + r.h <;> simp [body, q_ev_v, q_ev_non, q_ev_bl, q_ev_int, q_ev_str, q_ev_con, q_ev_tup, q_ev_lst, q_ev_bin, q_ev_neg, q_ev_not, q_ev_cmp, q_ev_chain, q_ev_and, q_ev_or, q_ev_ifx, q_ev_ix, q_ev_sl, q_ev_call, q_ev_blt, q_ev_isi, q_ev_met, q_ev_tupS, q_ev_lstS, q_ev_rev, q_ev_dnew, q_ev_dzip, q_ev_fnv, q_ev_calv, q_ev_comp2, q_ev_dcomp, q_ev_sls, q_ev_val, q_evs_nil, q_evs_cons, q_evs_star, q_evD_nil, q_evD_cons, q_evAnd_cons, q_evAnd_cons2, q_evOr_cons, q_evOr_cons2, q_evIfs_none, q_evIfs_some, q_evo_none, q_evo_some, q_evi_ex, q_run1_ex, q_run1_set, q_run1_put, q_run1_aug, q_run1_augs, q_run1_ite, q_run1_whl, q_run1_for, q_run1_ret, q_run1_retN, q_run1_rais, q_run1_try, q_run1_brk, q_run1_cnt, q_run1_pas, q_runs_nil, q_runs_cons, q_runH_nil, q_runH_cons, tst, bltop, bindG, bindGs, cmpop, ofB, truthy, int1, int2, ltop, leop, binop, addop, subop, mulop, divop, modop, powop, ixop, items, litems, ditems, mkLst, mkDic, lenop, intop, isiop, tyOf, putop, src, wipeP, metop, metok, isLst, isDic, isStr, isLsq, isTp, appop, popL, getD, slop, revop, tupop, lstop, keyOf, inop, Aes.len, peq, scalP, eqF, isNon, isBl, augop, augix, turnF, c1, c2, c3, c4]) rs [some (.tup (rs.map rwP)), some (.int x), some (.int y), some (.str ""), none, none, none, none, none] h ⟨"", _, _, _, _, _, rfl, rfl, rfl⟩
    rw [show s = topR rs x y from q] at e
    exact ⟨_, _, _, _, _, (for_run rfl (by simp [body, q_ev_v, q_ev_non, q_ev_bl, q_ev_int, q_ev_str, q_ev_con, q_ev_tup, q_ev_lst, q_ev_bin, q_ev_neg, q_ev_not, q_ev_cmp, q_ev_chain, q_ev_and, q_ev_or, q_ev_ifx, q_ev_ix, q_ev_sl, q_ev_call, q_ev_blt, q_ev_isi, q_ev_met, q_ev_tupS, q_ev_lstS, q_ev_rev, q_ev_dnew, q_ev_dzip, q_ev_fnv, q_ev_calv, q_ev_comp2, q_ev_dcomp, q_ev_sls, q_ev_val, q_evs_nil, q_evs_cons, q_evs_star, q_evD_nil, q_evD_cons, q_evAnd_cons, q_evAnd_cons2, q_evOr_cons, q_evOr_cons2, q_evIfs_none, q_evIfs_some, q_evo_none, q_evo_some, q_evi_ex, q_run1_ex, q_run1_set, q_run1_put, q_run1_aug, q_run1_augs, q_run1_ite, q_run1_whl, q_run1_for, q_run1_ret, q_run1_retN, q_run1_rais, q_run1_try, q_run1_brk, q_run1_cnt, q_run1_pas, q_runs_nil, q_runs_cons, q_runH_nil, q_runH_cons, tst, bltop, bindG, bindGs, cmpop, ofB, truthy, int1, int2, ltop, leop, binop, addop, subop, mulop, divop, modop, powop, ixop, items, litems, ditems, mkLst, mkDic, lenop, intop, isiop, tyOf, putop, src, wipeP, metop, metok, isLst, isDic, isStr, isLsq, isTp, appop, popL, getD, slop, revop, tupop, lstop, keyOf, inop, Aes.len, peq, scalP, eqF, isNon, isBl, augop, augix])).trans e⟩
  obtain ⟨w4, w5, w6, w7, w8, el⟩ := el
  generalize rs.map rwP = RS at *
  simp [body, q_ev_v, q_ev_non, q_ev_bl, q_ev_int, q_ev_str, q_ev_con, q_ev_tup, q_ev_lst, q_ev_bin, q_ev_neg, q_ev_not, q_ev_cmp, q_ev_chain, q_ev_and, q_ev_or, q_ev_ifx, q_ev_ix, q_ev_sl, q_ev_call, q_ev_blt, q_ev_isi, q_ev_met, q_ev_tupS, q_ev_lstS, q_ev_rev, q_ev_dnew, q_ev_dzip, q_ev_fnv, q_ev_calv, q_ev_comp2, q_ev_dcomp, q_ev_sls, q_ev_val, q_evs_nil, q_evs_cons, q_evs_star, q_evD_nil, q_evD_cons, q_evAnd_cons, q_evAnd_cons2, q_evOr_cons, q_evOr_cons2, q_evIfs_none, q_evIfs_some, q_evo_none, q_evo_some, q_evi_ex, q_run1_ex, q_run1_set, q_run1_put, q_run1_aug, q_run1_augs, q_run1_ite, q_run1_whl, q_run1_for, q_run1_ret, q_run1_retN, q_run1_rais, q_run1_try, q_run1_brk, q_run1_cnt, q_run1_pas, q_runs_nil, q_runs_cons, q_runH_nil, q_runH_cons, tst, bltop, bindG, bindGs, cmpop, ofB, truthy, int1, int2, ltop, leop, binop, addop, subop, mulop, divop, modop, powop, ixop, items, litems, ditems, mkLst, mkDic, lenop, intop, isiop, tyOf, putop, src, wipeP, metop, metok, isLst, isDic, isStr, isLsq, isTp, appop, popL, getD, slop, revop, tupop, lstop, keyOf, inop, Aes.len, peq, scalP, eqF, isNon, isBl, augop, augix, f_law_top, el]
  exact end_rt
theorem add_st {x y : Str} (h : x.length + y.length ≤ 1000000) (r : Bool) (q : MH) : addop r (.str x) (.str y) q = .ok (.str (x ++ y)) q := by
  simp only [addop]
  rw [if_pos (small h)]
theorem snoc (cs : List Nat) (c : Nat) : ((⟨cs.toArray⟩ : Str) ++ (⟨#[c]⟩ : Str)) = ⟨(cs ++ [c]).toArray⟩ := by
  show (⟨cs.toArray ++ #[c]⟩ : Str) = _
  simp
theorem nil_str : ("" : Str) = ⟨([] : List Nat).toArray⟩ := rfl
theorem s_law_signs {PG : Pg} [Has PG "_law_signs" f_law_signs] [Has PG "_law_top" f_law_top] {n : Nat} (hn : 2 ≤ n) (h : MH) {rs : List Rw} (nm : ∀ r ∈ rs, isNm r.n = true ∧ r.n.length ≤ 8) (W H : Nat) (hW : W ≤ 100) (hH : H ≤ 100) : call PG n "_law_signs" [.tup (rs.map rwP), .int (W : Int), .int (H : Int)] [] [] h = .ok (.lst ((pic rs W H).map .str)) h := by
  rw [call_ge (by omega) rfl]
  have e1 := fun (q : MH) (x y : Int) => s_law_top (PG := PG) (n := n - 1) (by omega) q rs x y
  generalize rs.map rwP = RS at *
  -- a line
  have e2 : ∀ (y : Nat) (xs : List PV) (w6 : Option PV), ∃ w6', run1 PG (call PG (n - 1)) l_law_signs_1 [some (.tup RS), some (.int (W : Int)), some (.int (H : Int)), some (.ref h.length), some (.int (y : Int)), some (.str ""), w6] (h ++ [.lst xs]) = .nx [some (.tup RS), some (.int (W : Int)), some (.int (H : Int)), some (.ref h.length), some (.int (y : Int)), some (.str (lnS rs W (y : Int))), w6'] (h ++ [.lst xs]) := fun y xs w6 => by
    have hr := rng1 (P := PG) (cl := call PG (n - 1)) (e := .v 1) (ρ := [some (.tup RS), some (.int (W : Int)), some (.int (H : Int)), some (.ref h.length), some (.int (y : Int)), some (.str ""), w6]) (h := h ++ [.lst xs]) (h' := h ++ [.lst xs]) (n := (W : Int)) (by simp [body, q_ev_v, q_ev_non, q_ev_bl, q_ev_int, q_ev_str, q_ev_con, q_ev_tup, q_ev_lst, q_ev_bin, q_ev_neg, q_ev_not, q_ev_cmp, q_ev_chain, q_ev_and, q_ev_or, q_ev_ifx, q_ev_ix, q_ev_sl, q_ev_call, q_ev_blt, q_ev_isi, q_ev_met, q_ev_tupS, q_ev_lstS, q_ev_rev, q_ev_dnew, q_ev_dzip, q_ev_fnv, q_ev_calv, q_ev_comp2, q_ev_dcomp, q_ev_sls, q_ev_val, q_evs_nil, q_evs_cons, q_evs_star, q_evD_nil, q_evD_cons, q_evAnd_cons, q_evAnd_cons2, q_evOr_cons, q_evOr_cons2, q_evIfs_none, q_evIfs_some, q_evo_none, q_evo_some, q_evi_ex, q_run1_ex, q_run1_set, q_run1_put, q_run1_aug, q_run1_augs, q_run1_ite, q_run1_whl, q_run1_for, q_run1_ret, q_run1_retN, q_run1_rais, q_run1_try, q_run1_brk, q_run1_cnt, q_run1_pas, q_runs_nil, q_runs_cons, q_runH_nil, q_runH_cons, tst, bltop, bindG, bindGs, cmpop, ofB, truthy, int1, int2, ltop, leop, binop, addop, subop, mulop, divop, modop, powop, ixop, items, litems, ditems, mkLst, mkDic, lenop, intop, isiop, tyOf, putop, src, wipeP, metop, metok, isLst, isDic, isStr, isLsq, isTp, appop, popL, getD, slop, revop, tupop, lstop, keyOf, inop, Aes.len, peq, scalP, eqF, isNon, isBl, augop, augix]) (by omega)
    rw [Int.toNat_natCast] at hr
    obtain ⟨ρ', hh, e, cs, w, rfl, rfl, q, lq⟩ := for_rel (α := Nat) (g := fun (k : Nat) => PV.int (k : Int)) (l := []) (body := turnF PG (call PG (n - 1)) (.nm 6) (.cons (.set (.nm 5) (.bin .add false (.v 5) (.ix (.bin .add false (.call "_law_top" (.cons (.v 0) (.cons (.v 6) (.cons (.v 4) .nil))) [] .nil) (.str ".")) (.int 0)))) .nil))
      (fun zs ρ hh => ∃ (cs : List Nat) (w : Option PV), ρ = [some (.tup RS), some (.int (W : Int)), some (.int (H : Int)), some (.ref h.length), some (.int (y : Int)), some (.str ⟨cs.toArray⟩), w] ∧ hh = h ++ [.lst xs] ∧ cs ++ zs.map (fun (x : Nat) => sgc (topR rs (x : Int) (y : Int))) = lnc rs W (y : Int) ∧ cs.length + zs.length = W) (fun _ _ _ _ => chk_nil) (fun z zs ρ hh ⟨cs, w, r1, r2, q, lq⟩ => by
        subst r1; subst r2
        have tl := top_len nm (z : Int) (y : Int)
        have e3 := e1 (h ++ [.lst xs]) (z : Int) (y : Int)
        refine ⟨_, _, .inl ?_, cs ++ [sgc (topR rs (z : Int) (y : Int))], some (.int (z : Int)), rfl, rfl, by rw [← q]; simp, by rw [← lq]; simp; omega⟩
        generalize topR rs (z : Int) (y : Int) = t at *
        have a1 : ∀ q, addop false (.str t) (.str ".") q = .ok (.str (t ++ ".")) q := fun q => add_st (by rw [show (("." : Str)).length = 1 from rfl]; omega) false q
        have a2 := sg_ix2 tl (h ++ [.lst xs])
        have lc : (⟨cs.toArray⟩ : Str).length = cs.length := by rw [len_cps]
        simp only [List.length_cons] at lq
        have a3 : ∀ q, addop false (.str ⟨cs.toArray⟩) (ch (sgc t)) q = .ok (.str ⟨(cs ++ [sgc t]).toArray⟩) q := fun q => by
          rw [← snoc]
          exact add_st (by rw [lc, show ((⟨#[sgc t]⟩ : Str)).length = 1 from rfl]; omega) false q
        generalize (cs ++ [sgc t]).toArray = C' at *
        generalize ch (sgc t) = g at *
        simp [body, q_ev_v, q_ev_non, q_ev_bl, q_ev_int, q_ev_str, q_ev_con, q_ev_tup, q_ev_lst, q_ev_bin, q_ev_neg, q_ev_not, q_ev_cmp, q_ev_chain, q_ev_and, q_ev_or, q_ev_ifx, q_ev_ix, q_ev_sl, q_ev_call, q_ev_blt, q_ev_isi, q_ev_met, q_ev_tupS, q_ev_lstS, q_ev_rev, q_ev_dnew, q_ev_dzip, q_ev_fnv, q_ev_calv, q_ev_comp2, q_ev_dcomp, q_ev_sls, q_ev_val, q_evs_nil, q_evs_cons, q_evs_star, q_evD_nil, q_evD_cons, q_evAnd_cons, q_evAnd_cons2, q_evOr_cons, q_evOr_cons2, q_evIfs_none, q_evIfs_some, q_evo_none, q_evo_some, q_evi_ex, q_run1_ex, q_run1_set, q_run1_put, q_run1_aug, q_run1_augs, q_run1_ite, q_run1_whl, q_run1_for, q_run1_ret, q_run1_retN, q_run1_rais, q_run1_try, q_run1_brk, q_run1_cnt, q_run1_pas, q_runs_nil, q_runs_cons, q_runH_nil, q_runH_cons, tst, bltop, bindG, bindGs, cmpop, ofB, truthy, int1, int2, ltop, leop, binop, addop, subop, mulop, divop, modop, powop, ixop, items, litems, ditems, mkLst, mkDic, lenop, intop, isiop, tyOf, putop, src, wipeP, metop, metok, isLst, isDic, isStr, isLsq, isTp, appop, popL, getD, slop, revop, tupop, lstop, keyOf, inop, Aes.len, peq, scalP, eqF, isNon, isBl, augop, augix, -addop, -ixop, turnF, e3, a1, a2, a3]) (List.range W) [some (.tup RS), some (.int (W : Int)), some (.int (H : Int)), some (.ref h.length), some (.int (y : Int)), some (.str ""), w6] (h ++ [.lst xs]) ⟨[], _, rfl, rfl, by rw [List.nil_append]; rfl, by simp⟩
    rw [List.map_nil, List.append_nil] at q
    subst q
    exact ⟨_, (for_run rfl hr).trans e⟩
  have hr := rng1 (P := PG) (cl := call PG (n - 1)) (e := .v 2) (ρ := [some (.tup RS), some (.int (W : Int)), some (.int (H : Int)), some (.ref h.length), none, none, none]) (h := h ++ [.lst []]) (h' := h ++ [.lst []]) (n := (H : Int)) (by simp [body, q_ev_v, q_ev_non, q_ev_bl, q_ev_int, q_ev_str, q_ev_con, q_ev_tup, q_ev_lst, q_ev_bin, q_ev_neg, q_ev_not, q_ev_cmp, q_ev_chain, q_ev_and, q_ev_or, q_ev_ifx, q_ev_ix, q_ev_sl, q_ev_call, q_ev_blt, q_ev_isi, q_ev_met, q_ev_tupS, q_ev_lstS, q_ev_rev, q_ev_dnew, q_ev_dzip, q_ev_fnv, q_ev_calv, q_ev_comp2, q_ev_dcomp, q_ev_sls, q_ev_val, q_evs_nil, q_evs_cons, q_evs_star, q_evD_nil, q_evD_cons, q_evAnd_cons, q_evAnd_cons2, q_evOr_cons, q_evOr_cons2, q_evIfs_none, q_evIfs_some, q_evo_none, q_evo_some, q_evi_ex, q_run1_ex, q_run1_set, q_run1_put, q_run1_aug, q_run1_augs, q_run1_ite, q_run1_whl, q_run1_for, q_run1_ret, q_run1_retN, q_run1_rais, q_run1_try, q_run1_brk, q_run1_cnt, q_run1_pas, q_runs_nil, q_runs_cons, q_runH_nil, q_runH_cons, tst, bltop, bindG, bindGs, cmpop, ofB, truthy, int1, int2, ltop, leop, binop, addop, subop, mulop, divop, modop, powop, ixop, items, litems, ditems, mkLst, mkDic, lenop, intop, isiop, tyOf, putop, src, wipeP, metop, metok, isLst, isDic, isStr, isLsq, isTp, appop, popL, getD, slop, revop, tupop, lstop, keyOf, inop, Aes.len, peq, scalP, eqF, isNon, isBl, augop, augix]) (by omega)
  rw [Int.toNat_natCast] at hr
  obtain ⟨ρ', hh, e, ls, w4, w5, w6, rfl, rfl, q, lq⟩ := for_rel (α := Nat) (g := fun (k : Nat) => PV.int (k : Int)) (l := []) (body := turnF PG (call PG (n - 1)) (.nm 4) (.cons (.set (.nm 5) (.str "")) (.cons l_law_signs_1 (.cons (.ex (.met .append false (.v 3) (.cons (.v 5) .nil))) .nil))))
    (fun zs ρ hh => ∃ (ls : List Str) (w4 w5 w6 : Option PV), ρ = [some (.tup RS), some (.int (W : Int)), some (.int (H : Int)), some (.ref h.length), w4, w5, w6] ∧ hh = h ++ [.lst (ls.map .str)] ∧ ls ++ zs.map (fun (y : Nat) => lnS rs W (y : Int)) = pic rs W H ∧ ls.length + zs.length = H) (fun _ _ _ _ => chk_nil) (fun z zs ρ hh ⟨ls, w4, w5, w6, r1, r2, q, lq⟩ => by
      subst r1; subst r2
      obtain ⟨w6', e3⟩ := e2 z (ls.map .str) w6
      simp only [List.length_cons] at lq
      refine ⟨_, _, .inl ?_, ls ++ [lnS rs W (z : Int)], some (.int (z : Int)), some (.str (lnS rs W (z : Int))), w6', rfl, rfl, by rw [← q]; simp, by rw [← lq]; simp; omega⟩
      have zl : (ls.map PV.str).length < sizeLine := by rw [List.length_map, sizeLine_eq]; omega
      rw [List.map_append]
      generalize ls.map PV.str = LS at *
      simp [body, q_ev_v, q_ev_non, q_ev_bl, q_ev_int, q_ev_str, q_ev_con, q_ev_tup, q_ev_lst, q_ev_bin, q_ev_neg, q_ev_not, q_ev_cmp, q_ev_chain, q_ev_and, q_ev_or, q_ev_ifx, q_ev_ix, q_ev_sl, q_ev_call, q_ev_blt, q_ev_isi, q_ev_met, q_ev_tupS, q_ev_lstS, q_ev_rev, q_ev_dnew, q_ev_dzip, q_ev_fnv, q_ev_calv, q_ev_comp2, q_ev_dcomp, q_ev_sls, q_ev_val, q_evs_nil, q_evs_cons, q_evs_star, q_evD_nil, q_evD_cons, q_evAnd_cons, q_evAnd_cons2, q_evOr_cons, q_evOr_cons2, q_evIfs_none, q_evIfs_some, q_evo_none, q_evo_some, q_evi_ex, q_run1_ex, q_run1_set, q_run1_put, q_run1_aug, q_run1_augs, q_run1_ite, q_run1_whl, q_run1_for, q_run1_ret, q_run1_retN, q_run1_rais, q_run1_try, q_run1_brk, q_run1_cnt, q_run1_pas, q_runs_nil, q_runs_cons, q_runH_nil, q_runH_cons, tst, bltop, bindG, bindGs, cmpop, ofB, truthy, int1, int2, ltop, leop, binop, addop, subop, mulop, divop, modop, powop, ixop, items, litems, ditems, mkLst, mkDic, lenop, intop, isiop, tyOf, putop, src, wipeP, metop, metok, isLst, isDic, isStr, isLsq, isTp, appop, popL, getD, slop, revop, tupop, lstop, keyOf, inop, Aes.len, peq, scalP, eqF, isNon, isBl, augop, augix, turnF, e3, zl]) (List.range H) [some (.tup RS), some (.int (W : Int)), some (.int (H : Int)), some (.ref h.length), none, none, none] (h ++ [.lst []]) ⟨[], _, _, _, rfl, rfl, by rw [List.nil_append]; rfl, by simp⟩
  rw [List.map_nil, List.append_nil] at q
  subst q
  have e9 : run1 PG (call PG (n - 1)) l_law_signs_2 _ (h ++ [.lst []]) = _ := (for_run rfl hr).trans e
  generalize hL : (pic rs W H).map PV.str = L at *
  have D : Dts L := by rw [← hL]; infer_instance
  simp [body, q_ev_v, q_ev_non, q_ev_bl, q_ev_int, q_ev_str, q_ev_con, q_ev_tup, q_ev_lst, q_ev_bin, q_ev_neg, q_ev_not, q_ev_cmp, q_ev_chain, q_ev_and, q_ev_or, q_ev_ifx, q_ev_ix, q_ev_sl, q_ev_call, q_ev_blt, q_ev_isi, q_ev_met, q_ev_tupS, q_ev_lstS, q_ev_rev, q_ev_dnew, q_ev_dzip, q_ev_fnv, q_ev_calv, q_ev_comp2, q_ev_dcomp, q_ev_sls, q_ev_val, q_evs_nil, q_evs_cons, q_evs_star, q_evD_nil, q_evD_cons, q_evAnd_cons, q_evAnd_cons2, q_evOr_cons, q_evOr_cons2, q_evIfs_none, q_evIfs_some, q_evo_none, q_evo_some, q_evi_ex, q_run1_ex, q_run1_set, q_run1_put, q_run1_aug, q_run1_augs, q_run1_ite, q_run1_whl, q_run1_for, q_run1_ret, q_run1_retN, q_run1_rais, q_run1_try, q_run1_brk, q_run1_cnt, q_run1_pas, q_runs_nil, q_runs_cons, q_runH_nil, q_runH_cons, tst, bltop, bindG, bindGs, cmpop, ofB, truthy, int1, int2, ltop, leop, binop, addop, subop, mulop, divop, modop, powop, ixop, items, litems, ditems, mkLst, mkDic, lenop, intop, isiop, tyOf, putop, src, wipeP, metop, metok, isLst, isDic, isStr, isLsq, isTp, appop, popL, getD, slop, revop, tupop, lstop, keyOf, inop, Aes.len, peq, scalP, eqF, isNon, isBl, augop, augix, f_law_signs, e9]
  exact end_lst_app (Nat.le_refl _) (by simp)
theorem s_same_str {PG : Pg} [Has PG "_law_same" f_law_same] {n : Nat} (hn : 1 ≤ n) (h : MH) (b : Str) : call PG n "_law_same" [.str b, .str b] [] [] h = .ok (.bl true) h := by
  rw [call_ge (by omega) rfl]
  simp [body, q_ev_v, q_ev_non, q_ev_bl, q_ev_int, q_ev_str, q_ev_con, q_ev_tup, q_ev_lst, q_ev_bin, q_ev_neg, q_ev_not, q_ev_cmp, q_ev_chain, q_ev_and, q_ev_or, q_ev_ifx, q_ev_ix, q_ev_sl, q_ev_call, q_ev_blt, q_ev_isi, q_ev_met, q_ev_tupS, q_ev_lstS, q_ev_rev, q_ev_dnew, q_ev_dzip, q_ev_fnv, q_ev_calv, q_ev_comp2, q_ev_dcomp, q_ev_sls, q_ev_val, q_evs_nil, q_evs_cons, q_evs_star, q_evD_nil, q_evD_cons, q_evAnd_cons, q_evAnd_cons2, q_evOr_cons, q_evOr_cons2, q_evIfs_none, q_evIfs_some, q_evo_none, q_evo_some, q_evi_ex, q_run1_ex, q_run1_set, q_run1_put, q_run1_aug, q_run1_augs, q_run1_ite, q_run1_whl, q_run1_for, q_run1_ret, q_run1_retN, q_run1_rais, q_run1_try, q_run1_brk, q_run1_cnt, q_run1_pas, q_runs_nil, q_runs_cons, q_runH_nil, q_runH_cons, tst, bltop, bindG, bindGs, cmpop, ofB, truthy, int1, int2, ltop, leop, binop, addop, subop, mulop, divop, modop, powop, ixop, items, litems, ditems, mkLst, mkDic, lenop, intop, isiop, tyOf, putop, src, wipeP, metop, metok, isLst, isDic, isStr, isLsq, isTp, appop, popL, getD, slop, revop, tupop, lstop, keyOf, inop, Aes.len, peq, scalP, eqF, isNon, isBl, augop, augix, f_law_same, subB]
  exact end_rt
theorem same_ref {PG : Pg} [Has PG "_law_same" f_law_same] {n : Nat} (hn : 2 ≤ n) (h : MH) {ss : List Str} (hl : ss.length ≤ 1000) {j : Nat} (hj : h[j]? = some (.lst (ss.map .str))) : call PG n "_law_same" [.ref j, .lst (ss.map .str)] [] [] h = .ok (.bl true) h := by
  rw [call_ge (by omega) rfl]
  have hr := rng1 (P := PG) (cl := call PG (n - 1)) (e := (.blt .len false (.cons (.v 1) .nil))) (ρ := [some (.ref j), some (.lst (ss.map .str)), some (.bl true), none]) (h := h) (h' := h) (n := (ss.length : Int)) (by simp [body, q_ev_v, q_ev_non, q_ev_bl, q_ev_int, q_ev_str, q_ev_con, q_ev_tup, q_ev_lst, q_ev_bin, q_ev_neg, q_ev_not, q_ev_cmp, q_ev_chain, q_ev_and, q_ev_or, q_ev_ifx, q_ev_ix, q_ev_sl, q_ev_call, q_ev_blt, q_ev_isi, q_ev_met, q_ev_tupS, q_ev_lstS, q_ev_rev, q_ev_dnew, q_ev_dzip, q_ev_fnv, q_ev_calv, q_ev_comp2, q_ev_dcomp, q_ev_sls, q_ev_val, q_evs_nil, q_evs_cons, q_evs_star, q_evD_nil, q_evD_cons, q_evAnd_cons, q_evAnd_cons2, q_evOr_cons, q_evOr_cons2, q_evIfs_none, q_evIfs_some, q_evo_none, q_evo_some, q_evi_ex, q_run1_ex, q_run1_set, q_run1_put, q_run1_aug, q_run1_augs, q_run1_ite, q_run1_whl, q_run1_for, q_run1_ret, q_run1_retN, q_run1_rais, q_run1_try, q_run1_brk, q_run1_cnt, q_run1_pas, q_runs_nil, q_runs_cons, q_runH_nil, q_runH_cons, tst, bltop, bindG, bindGs, cmpop, ofB, truthy, int1, int2, ltop, leop, binop, addop, subop, mulop, divop, modop, powop, ixop, items, litems, ditems, mkLst, mkDic, lenop, intop, isiop, tyOf, putop, src, wipeP, metop, metok, isLst, isDic, isStr, isLsq, isTp, appop, popL, getD, slop, revop, tupop, lstop, keyOf, inop, Aes.len, peq, scalP, eqF, isNon, isBl, augop, augix]) (by omega)
  rw [Int.toNat_natCast] at hr
  have := for_fold (α := Nat) (g := fun (k : Nat) => PV.int (k : Int)) (l := []) (body := turnF PG (call PG (n - 1)) (.nm 3) (.cons (.ite (.not (.call "_law_same" (.cons (.ix (.v 0) (.v 3)) (.cons (.ix (.v 1) (.v 3)) .nil)) [] .nil)) (.cons (.ret (.bl false)) .nil) .nil) .nil))
    (E := fun (s : Option PV) => [some (.ref j), some (.lst (ss.map .str)), some (.bl true), s]) (H := fun _ => h) (st := fun _ (z : Nat) => some (.int (z : Int))) (fun xs _ => ∀ z ∈ xs, z < ss.length) (fun _ => chk_nil) (fun z xs s jj => by
      have z0 := jj z List.mem_cons_self
      have e3 := s_same_str (PG := PG) (n := n - 1) (by omega) h (ss.getD z "")
      have i1 : ixop (.ref j) (.int (z : Int)) h = .ok (.str (ss.getD z "")) h := by
        have := atI_map (f := PV.str) (xs := ss) ("" : Str) z0
        simp [ixop, ditems, items, hj, this]
      have i2 : ixop (.lst (ss.map .str)) (.int (z : Int)) h = .ok (.str (ss.getD z "")) h := by
        have := atI_map (f := PV.str) (xs := ss) ("" : Str) z0
        simp [ixop, ditems, items, this]
      generalize ss.map PV.str = SS at *
      generalize ss.getD z "" = t at *
      exact ⟨by simp [body, q_ev_v, q_ev_non, q_ev_bl, q_ev_int, q_ev_str, q_ev_con, q_ev_tup, q_ev_lst, q_ev_bin, q_ev_neg, q_ev_not, q_ev_cmp, q_ev_chain, q_ev_and, q_ev_or, q_ev_ifx, q_ev_ix, q_ev_sl, q_ev_call, q_ev_blt, q_ev_isi, q_ev_met, q_ev_tupS, q_ev_lstS, q_ev_rev, q_ev_dnew, q_ev_dzip, q_ev_fnv, q_ev_calv, q_ev_comp2, q_ev_dcomp, q_ev_sls, q_ev_val, q_evs_nil, q_evs_cons, q_evs_star, q_evD_nil, q_evD_cons, q_evAnd_cons, q_evAnd_cons2, q_evOr_cons, q_evOr_cons2, q_evIfs_none, q_evIfs_some, q_evo_none, q_evo_some, q_evi_ex, q_run1_ex, q_run1_set, q_run1_put, q_run1_aug, q_run1_augs, q_run1_ite, q_run1_whl, q_run1_for, q_run1_ret, q_run1_retN, q_run1_rais, q_run1_try, q_run1_brk, q_run1_cnt, q_run1_pas, q_runs_nil, q_runs_cons, q_runH_nil, q_runH_cons, tst, bltop, bindG, bindGs, cmpop, ofB, truthy, int1, int2, ltop, leop, binop, addop, subop, mulop, divop, modop, powop, ixop, items, litems, ditems, mkLst, mkDic, lenop, intop, isiop, tyOf, putop, src, wipeP, metop, metok, isLst, isDic, isStr, isLsq, isTp, appop, popL, getD, slop, revop, tupop, lstop, keyOf, inop, Aes.len, peq, scalP, eqF, isNon, isBl, augop, augix, -ixop, turnF, i1, i2, e3], fun y hy => jj y (List.mem_cons_of_mem _ hy)⟩) (List.range ss.length) none (fun z hz => List.mem_range.mp hz)
  have e9 : run1 PG (call PG (n - 1)) l_law_same_1 [some (.ref j), some (.lst (ss.map .str)), some (.bl true), none] h = _ := (for_run rfl hr).trans this
  have p1 := peq_str h
  generalize ss.map PV.str = SS at *
  simp [body, q_ev_v, q_ev_non, q_ev_bl, q_ev_int, q_ev_str, q_ev_con, q_ev_tup, q_ev_lst, q_ev_bin, q_ev_neg, q_ev_not, q_ev_cmp, q_ev_chain, q_ev_and, q_ev_or, q_ev_ifx, q_ev_ix, q_ev_sl, q_ev_call, q_ev_blt, q_ev_isi, q_ev_met, q_ev_tupS, q_ev_lstS, q_ev_rev, q_ev_dnew, q_ev_dzip, q_ev_fnv, q_ev_calv, q_ev_comp2, q_ev_dcomp, q_ev_sls, q_ev_val, q_evs_nil, q_evs_cons, q_evs_star, q_evD_nil, q_evD_cons, q_evAnd_cons, q_evAnd_cons2, q_evOr_cons, q_evOr_cons2, q_evIfs_none, q_evIfs_some, q_evo_none, q_evo_some, q_evi_ex, q_run1_ex, q_run1_set, q_run1_put, q_run1_aug, q_run1_augs, q_run1_ite, q_run1_whl, q_run1_for, q_run1_ret, q_run1_retN, q_run1_rais, q_run1_try, q_run1_brk, q_run1_cnt, q_run1_pas, q_runs_nil, q_runs_cons, q_runH_nil, q_runH_cons, tst, bltop, bindG, bindGs, cmpop, ofB, truthy, int1, int2, ltop, leop, binop, addop, subop, mulop, divop, modop, powop, ixop, items, litems, ditems, mkLst, mkDic, lenop, intop, isiop, tyOf, putop, src, wipeP, metop, metok, isLst, isDic, isStr, isLsq, isTp, appop, popL, getD, slop, revop, tupop, lstop, keyOf, inop, Aes.len, peq, scalP, eqF, isNon, isBl, augop, augix, f_law_same, subB, hj, e9]
  exact end_rt
end Mx.FB

end

section
set_option Elab.async false
set_option linter.all false
set_option maxRecDepth 100000
set_option maxHeartbeats 4000000
set_option exponentiation.threshold 20000
namespace Mx.FB
open PySem PySem.Spec PyProof.Rows L2 Mx

/-! a well -/
def mkW (a b k : Int) : MO := .lst [.int a, .int b, .int k]
def PK (K : Nat) (o : MO) : Prop := ∃ a b k : Int, 0 ≤ a ∧ 0 ≤ b ∧ b < 2 ^ 81 ∧ 0 ≤ k ∧ k ≤ (K : Int) ∧ o = mkW a b k
theorem PK.below {K : Nat} : ∀ o, PK K o → ∀ k, belowO k o := fun o ⟨a, b, j, _, _, _, _, _, e⟩ k => by
  subst e
  exact ⟨trivial, trivial, trivial, trivial⟩
theorem PK.mono {K K' : Nat} (h : K ≤ K') {o : MO} : PK K o → PK K' o := fun ⟨a, b, k, h1, h2, h3, h4, h5, e⟩ => ⟨a, b, k, h1, h2, h3, h4, by omega, e⟩
def Pk (K : Nat) (h : MH) (m : Nat) : Prop := ∃ o, h[m]? = some o ∧ PK K o
theorem Pk.chg {K : Nat} {h : MH} {m : Nat} (d : Pk K h m) : Chg (PK K) m h h := by
  obtain ⟨o, e, i⟩ := d
  exact .refl e i
theorem Pk.lt {K : Nat} {h : MH} {m : Nat} (d : Pk K h m) : m < h.length := by
  obtain ⟨o, e, _⟩ := d
  exact (List.getElem?_eq_some_iff.mp e).1
theorem _root_.Mx.Chg.pk {K : Nat} {h h' : MH} {m : Nat} (c : Chg (PK K) m h h') : Pk K h' m := c.at_
theorem Pk.app {K : Nat} {h : MH} {m : Nat} (d : Pk K h m) (e : MH) : Pk K (h ++ e) m := by
  obtain ⟨o, q, i⟩ := d
  exact ⟨o, by rw [List.getElem?_append_left (List.getElem?_eq_some_iff.mp q).1]; exact q, i⟩
theorem Chg.tr {I J : MO → Prop} {n : Nat} {h h1 h2 : MH} (a : Chg I n h h1) (b : Chg J n h1 h2) : Chg J n h h2 := ⟨b.len.trans a.len, fun m hm => (b.same m hm).trans (a.same m hm), b.at_⟩
theorem Chg.mono {K K' : Nat} {n : Nat} {h h1 : MH} (a : Chg (PK K) n h h1) (hk : K ≤ K') : Chg (PK K') n h h1 := ⟨a.len, a.same, by
  obtain ⟨o, e, i⟩ := a.at_
  exact ⟨o, e, i.mono hk⟩⟩
theorem set_same {h : MH} {m : Nat} {o : MO} (e : h[m]? = some o) : h.set m o = h := by
  obtain ⟨hm, q⟩ := List.getElem?_eq_some_iff.mp e
  rw [← q, List.set_getElem_self]
theorem atI_2c {a b c : PV} {xs : List PV} : atI (a :: b :: c :: xs) 2 = some c := by
  rw [show (2 : Int) = ((2 : Nat) : Int) from rfl, atI_nat (by simp)]
  rfl
theorem ixN_2c (n : Nat) : ixN (n + 1 + 1 + 1) 2 = some 2 := by
  rw [show (2 : Int) = ((2 : Nat) : Int) from rfl]
  exact ixN_nat (by omega)
theorem pow25 : ((10 : Int) ^ (25 : Nat)) = 10000000000000000000000000 := by decide
theorem pow24 : ((10 : Int) ^ (24 : Nat)) = 1000000000000000000000000 := by decide
theorem pow18 : ((10 : Int) ^ (18 : Nat)) = 1000000000000000000 := by decide
theorem s_dip {PG : Pg} [Has PG "_law_dip" f_law_dip] {n : Nat} (hn : 1 ≤ n) (h : MH) {m K : Nat} (many : Int) (hD : Pk K h m) (h1 : 1 ≤ many) (h2 : many ≤ 2 ^ 60) (hK : K ≤ 100000) :
    ∃ t h', call PG n "_law_dip" [.ref m, .int many] [] [] h = .ok (.int t) h' ∧ 0 ≤ t ∧ t < many ∧ Chg (PK (K + 1)) m h h' := by
  have hlt := hD.lt
  obtain ⟨o, hn', a, b, k, ha, hb, hb2, hk, hk2, rfl⟩ := hD
  rw [call_ge (by omega) rfl]
  have hm : many ≠ 0 := by omega
  have f1 : fitd many := fitd_z (k := 65) (by omega) (by decide)
  have g : ∀ o, (h.set m o)[m]? = some o := fun o => List.getElem?_set_self hlt
  have gg : ∀ o o', (h.set m o).set m o' = h.set m o' := fun o o' => List.set_set ..
  have g0 : h[m]? = some (.lst [.int a, .int b, .int k]) := hn'
  by_cases hp : 0 < a
  · have hp' : a > 0 := hp
    refine ⟨a.fmod many, h.set m (mkW (a.fdiv many) b k), ?_, Int.fmod_nonneg_of_pos _ (by omega), Int.fmod_lt_of_pos _ (by omega), Chg.set hlt ⟨_, _, _, Int.fdiv_nonneg ha (by omega), hb, hb2, hk, by omega, rfl⟩⟩
    unfold mkW
    simp [body, q_ev_v, q_ev_non, q_ev_bl, q_ev_int, q_ev_str, q_ev_con, q_ev_tup, q_ev_lst, q_ev_bin, q_ev_neg, q_ev_not, q_ev_cmp, q_ev_chain, q_ev_and, q_ev_or, q_ev_ifx, q_ev_ix, q_ev_sl, q_ev_call, q_ev_blt, q_ev_isi, q_ev_met, q_ev_tupS, q_ev_lstS, q_ev_rev, q_ev_dnew, q_ev_dzip, q_ev_fnv, q_ev_calv, q_ev_comp2, q_ev_dcomp, q_ev_sls, q_ev_val, q_evs_nil, q_evs_cons, q_evs_star, q_evD_nil, q_evD_cons, q_evAnd_cons, q_evAnd_cons2, q_evOr_cons, q_evOr_cons2, q_evIfs_none, q_evIfs_some, q_evo_none, q_evo_some, q_evi_ex, q_run1_ex, q_run1_set, q_run1_put, q_run1_aug, q_run1_augs, q_run1_ite, q_run1_whl, q_run1_for, q_run1_ret, q_run1_retN, q_run1_rais, q_run1_try, q_run1_brk, q_run1_cnt, q_run1_pas, q_runs_nil, q_runs_cons, q_runH_nil, q_runH_cons, tst, bltop, bindG, bindGs, cmpop, ofB, truthy, int1, int2, ltop, leop, binop, addop, subop, mulop, divop, modop, powop, ixop, items, litems, ditems, mkLst, mkDic, lenop, intop, isiop, tyOf, putop, src, wipeP, metop, metok, isLst, isDic, isStr, isLsq, isTp, appop, popL, getD, slop, revop, tupop, lstop, keyOf, inop, Aes.len, peq, scalP, eqF, isNon, isBl, augop, augix, f_law_dip, g0, g, gg, hp, hp', hm, f1, atI_2c, ixN_2c]
    exact res_rt (leave_len (by simp) fun k e => by cases e)
  · have hp' : ¬ a > 0 := hp
    have f2 : fits 1000003 (k + 1) := fits_z (k := 30) (m := 60) (by decide) (by omega) (by decide)
    have f3 : fits 77347 (k + 1) := fits_z (k := 30) (m := 60) (by decide) (by omega) (by decide)
    have d1 : fitd 10000000000000000000000013 := fitd_z (k := 100) (by decide) (by decide)
    have d2 : fitd 1000000000000000000000007 := fitd_z (k := 100) (by decide) (by decide)
    have d3 : fitd 4096 := fitd_z (k := 100) (by decide) (by decide)
    have p1 : (b + 1000003 * (k + 1)).natAbs < 2 ^ 200 := by omega
    have pw1 : ∀ q, powop (.int 10) (.int 25) q = .ok (.int 10000000000000000000000000) q := fun q => rfl
    have pw2 : ∀ q, powop (.int 10) (.int 24) q = .ok (.int 1000000000000000000000000) q := fun q => rfl
    have q1 : ∀ q, powop (.int (b + 1000003 * (k + 1))) (.int 3) q = .ok (.int ((b + 1000003 * (k + 1)) ^ 3)) q := fun q => by
      show (if 0 ≤ (3 : Int) ∧ (3 : Int) ≤ 1000 ∧ _ < 2 ^ 200 then Res.ok _ q else Res.stuck) = _
      rw [if_pos ⟨by decide, by decide, p1⟩]; rfl
    generalize (b + 1000003 * (k + 1)) ^ 3 = X at q1
    have m0 : 0 ≤ X.fmod 10000000000000000000000013 := Int.fmod_nonneg_of_pos _ (by decide)
    have m1 : X.fmod 10000000000000000000000013 < 10000000000000000000000013 := Int.fmod_lt_of_pos _ (by decide)
    have p2 : (X.fmod 10000000000000000000000013 + 77347 * (k + 1)).natAbs < 2 ^ 200 := by omega
    have q2 : ∀ q, powop (.int (X.fmod 10000000000000000000000013 + 77347 * (k + 1))) (.int 2) q = .ok (.int ((X.fmod 10000000000000000000000013 + 77347 * (k + 1)) ^ 2)) q := fun q => by
      show (if 0 ≤ (2 : Int) ∧ (2 : Int) ≤ 1000 ∧ _ < 2 ^ 200 then Res.ok _ q else Res.stuck) = _
      rw [if_pos ⟨by decide, by decide, p2⟩]; rfl
    generalize (X.fmod 10000000000000000000000013 + 77347 * (k + 1)) ^ 2 = Z at q2
    refine ⟨((Z.fmod 1000000000000000000000007).fdiv 4096).fmod many, h.set m (mkW a b (k + 1)), ?_, Int.fmod_nonneg_of_pos _ (by omega), Int.fmod_lt_of_pos _ (by omega), Chg.set hlt ⟨_, _, _, ha, hb, hb2, by omega, by omega, rfl⟩⟩
    unfold mkW
    simp [body, q_ev_v, q_ev_non, q_ev_bl, q_ev_int, q_ev_str, q_ev_con, q_ev_tup, q_ev_lst, q_ev_bin, q_ev_neg, q_ev_not, q_ev_cmp, q_ev_chain, q_ev_and, q_ev_or, q_ev_ifx, q_ev_ix, q_ev_sl, q_ev_call, q_ev_blt, q_ev_isi, q_ev_met, q_ev_tupS, q_ev_lstS, q_ev_rev, q_ev_dnew, q_ev_dzip, q_ev_fnv, q_ev_calv, q_ev_comp2, q_ev_dcomp, q_ev_sls, q_ev_val, q_evs_nil, q_evs_cons, q_evs_star, q_evD_nil, q_evD_cons, q_evAnd_cons, q_evAnd_cons2, q_evOr_cons, q_evOr_cons2, q_evIfs_none, q_evIfs_some, q_evo_none, q_evo_some, q_evi_ex, q_run1_ex, q_run1_set, q_run1_put, q_run1_aug, q_run1_augs, q_run1_ite, q_run1_whl, q_run1_for, q_run1_ret, q_run1_retN, q_run1_rais, q_run1_try, q_run1_brk, q_run1_cnt, q_run1_pas, q_runs_nil, q_runs_cons, q_runH_nil, q_runH_cons, tst, bltop, bindG, bindGs, cmpop, ofB, truthy, int1, int2, ltop, leop, binop, addop, subop, mulop, divop, modop, powop, ixop, items, litems, ditems, mkLst, mkDic, lenop, intop, isiop, tyOf, putop, src, wipeP, metop, metok, isLst, isDic, isStr, isLsq, isTp, appop, popL, getD, slop, revop, tupop, lstop, keyOf, inop, Aes.len, peq, scalP, eqF, isNon, isBl, augop, augix, -powop, f_law_dip, g0, g, gg, hp, hp', hm, f1, f2, f3, d1, d2, d3, pw1, pw2, q1, q2, atI_2c, ixN_2c]
    exact res_rt (leave_len (by simp) fun k e => by cases e)
theorem bits_log {z : Int} (h : Builtin.Int.intBits z ≤ 1048576) : z.natAbs.log2 ≤ 1048576 := by
  unfold Builtin.Int.intBits at h
  split at h
  · rename_i e
    have : z = 0 := by simpa using e
    subst this; decide
  · omega
theorem s_well {PG : Pg} [Has PG "_law_well" f_law_well] {n : Nat} (hn : 1 ≤ n) (h : MH) (ns : List Int) (hl : ns.length ≤ 63) (hb : ∀ z ∈ ns, Builtin.Int.intBits z ≤ 1048576) (p : Nat) (hp : p ≤ 10) : ∃ o, PK 0 o ∧ call PG n "_law_well" [.lst (ns.map .int), .int (p : Int)] [] [] h = .ok (.ref h.length) (h ++ [o]) := by
  rw [call_ge hn rfl]
  have d1 : fitd 1000000000000000000000007 := fitd_z (k := 100) (by decide) (by decide)
  have pw1 : ∀ q, powop (.int 10) (.int 18) q = .ok (.int 1000000000000000000) q := fun q => rfl
  have pw2 : ∀ q, powop (.int 10) (.int 24) q = .ok (.int 1000000000000000000000000) q := fun q => rfl
  have f0 : fits (p : Int) 6700417 := fits_z (k := 10) (m := 60) (by omega) (by decide) (by decide)
  have key : ∀ c : Int, c.natAbs.log2 ≤ 1048576 → ∃ o, PK 0 o ∧ ∀ w, (runs PG (call PG (n - 1)) (.cons (.ret (.lst true (.cons (.blt .max false (.cons (.int 0) (.cons (.bin .sub false (.blt .abs false (.cons (.v 2) .nil)) (.bin .pow false (.int 10) (.int 18))) .nil))) (.cons (.bin .mod false (.blt .int false (.cons (.bin .add false (.bin .add false (.bin .mul false (.v 2) (.int 48611)) (.bin .mul false (.v 1) (.int 6700417))) (.int 31337)) .nil)) (.bin .add false (.bin .pow false (.int 10) (.int 24)) (.int 7))) (.cons (.int 0) .nil))))) .nil) [some w, some (.int (p : Int)), some (.int c)] h).res true h = .ok (.ref h.length) (h ++ [o]) := fun c hc => by
    have f1 : fits c 48611 := by
      show c.natAbs.log2 + (48611 : Int).natAbs.log2 < 2000000
      have : (48611 : Int).natAbs.log2 ≤ 16 := by decide
      omega
    have m0 : 0 ≤ (c * 48611 + (p : Int) * 6700417 + 31337).fmod 1000000000000000000000007 := Int.fmod_nonneg_of_pos _ (by decide)
    have m1 : (c * 48611 + (p : Int) * 6700417 + 31337).fmod 1000000000000000000000007 < 1000000000000000000000007 := Int.fmod_lt_of_pos _ (by decide)
    refine ⟨mkW (if 1000000000000000000 < (if c < 0 then -c else c) then (if c < 0 then -c else c) - 1000000000000000000 else 0) ((c * 48611 + (p : Int) * 6700417 + 31337).fmod 1000000000000000000000007) 0, ⟨_, _, _, by split <;> omega, m0, by omega, by decide, by decide, rfl⟩, fun w => ?_⟩
    simp [body, q_ev_v, q_ev_non, q_ev_bl, q_ev_int, q_ev_str, q_ev_con, q_ev_tup, q_ev_lst, q_ev_bin, q_ev_neg, q_ev_not, q_ev_cmp, q_ev_chain, q_ev_and, q_ev_or, q_ev_ifx, q_ev_ix, q_ev_sl, q_ev_call, q_ev_blt, q_ev_isi, q_ev_met, q_ev_tupS, q_ev_lstS, q_ev_rev, q_ev_dnew, q_ev_dzip, q_ev_fnv, q_ev_calv, q_ev_comp2, q_ev_dcomp, q_ev_sls, q_ev_val, q_evs_nil, q_evs_cons, q_evs_star, q_evD_nil, q_evD_cons, q_evAnd_cons, q_evAnd_cons2, q_evOr_cons, q_evOr_cons2, q_evIfs_none, q_evIfs_some, q_evo_none, q_evo_some, q_evi_ex, q_run1_ex, q_run1_set, q_run1_put, q_run1_aug, q_run1_augs, q_run1_ite, q_run1_whl, q_run1_for, q_run1_ret, q_run1_retN, q_run1_rais, q_run1_try, q_run1_brk, q_run1_cnt, q_run1_pas, q_runs_nil, q_runs_cons, q_runH_nil, q_runH_cons, tst, bltop, bindG, bindGs, cmpop, ofB, truthy, int1, int2, ltop, leop, binop, addop, subop, mulop, divop, modop, powop, ixop, items, litems, ditems, mkLst, mkDic, lenop, intop, isiop, tyOf, putop, src, wipeP, metop, metok, isLst, isDic, isStr, isLsq, isTp, appop, popL, getD, slop, revop, tupop, lstop, keyOf, inop, Aes.len, peq, scalP, eqF, isNon, isBl, augop, augix, -powop, f0, f1, d1, pw1, pw2, mkW]
    exact res_kp
  by_cases c : p < ns.length
  · have hz := bits_log (hb _ (List.getElem_mem c))
    obtain ⟨o, ho, e⟩ := key ns[p] hz
    refine ⟨o, ho, ?_⟩
    have e := e (.lst (ns.map .int))
    have e1 : ∀ q, ixop (.lst (ns.map PV.int)) (.int (p : Int)) q = .ok (.int ns[p]) q := fun q => by
      have : atI (ns.map PV.int) (p : Int) = some (.int ns[p]) := by rw [atI_nat (by simpa using c)]; simp
      simp [ixop, ditems, items, this]
    have c' : (p : Int) < (ns.length : Int) := by omega
    have ln : ∀ q, lenop (.lst (ns.map PV.int)) q = .ok (.int (ns.length : Int)) q := fun q => by simp [lenop, items]
    generalize ns.map PV.int = NS at *
    generalize ns[p] = z at *
    rw [← e]
    simp [body, q_ev_v, q_ev_non, q_ev_bl, q_ev_int, q_ev_str, q_ev_con, q_ev_tup, q_ev_lst, q_ev_bin, q_ev_neg, q_ev_not, q_ev_cmp, q_ev_chain, q_ev_and, q_ev_or, q_ev_ifx, q_ev_ix, q_ev_sl, q_ev_call, q_ev_blt, q_ev_isi, q_ev_met, q_ev_tupS, q_ev_lstS, q_ev_rev, q_ev_dnew, q_ev_dzip, q_ev_fnv, q_ev_calv, q_ev_comp2, q_ev_dcomp, q_ev_sls, q_ev_val, q_evs_nil, q_evs_cons, q_evs_star, q_evD_nil, q_evD_cons, q_evAnd_cons, q_evAnd_cons2, q_evOr_cons, q_evOr_cons2, q_evIfs_none, q_evIfs_some, q_evo_none, q_evo_some, q_evi_ex, q_run1_ex, q_run1_set, q_run1_put, q_run1_aug, q_run1_augs, q_run1_ite, q_run1_whl, q_run1_for, q_run1_ret, q_run1_retN, q_run1_rais, q_run1_try, q_run1_brk, q_run1_cnt, q_run1_pas, q_runs_nil, q_runs_cons, q_runH_nil, q_runH_cons, tst, bltop, bindG, bindGs, cmpop, ofB, truthy, int1, int2, ltop, leop, binop, addop, subop, mulop, divop, modop, powop, ixop, items, litems, ditems, mkLst, mkDic, lenop, intop, isiop, tyOf, putop, src, wipeP, metop, metok, isLst, isDic, isStr, isLsq, isTp, appop, popL, getD, slop, revop, tupop, lstop, keyOf, inop, Aes.len, peq, scalP, eqF, isNon, isBl, augop, augix, -ixop, -lenop, -powop, f_law_well, c', ln, e1]
  · have f2 : fits (p : Int) 7919 := fits_z (k := 10) (m := 60) (by omega) (by decide) (by decide)
    have f3 : fits (ns.length : Int) 104729 := fits_z (k := 10) (m := 60) (by omega) (by decide) (by decide)
    obtain ⟨o, ho, e⟩ := key ((p : Int) * 7919 + (ns.length : Int) * 104729) (by
      have : ((p : Int) * 7919 + (ns.length : Int) * 104729).natAbs < 2 ^ 60 := by omega
      by_cases z : ((p : Int) * 7919 + (ns.length : Int) * 104729).natAbs = 0
      · rw [z]; decide
      · have := (Nat.log2_lt z).mpr this
        omega)
    refine ⟨o, ho, ?_⟩
    have e := e (.lst (ns.map .int))
    have c' : ¬ (p : Int) < (ns.length : Int) := by omega
    have ln : ∀ q, lenop (.lst (ns.map PV.int)) q = .ok (.int (ns.length : Int)) q := fun q => by simp [lenop, items]
    generalize ns.map PV.int = NS at *
    rw [← e]
    simp [body, q_ev_v, q_ev_non, q_ev_bl, q_ev_int, q_ev_str, q_ev_con, q_ev_tup, q_ev_lst, q_ev_bin, q_ev_neg, q_ev_not, q_ev_cmp, q_ev_chain, q_ev_and, q_ev_or, q_ev_ifx, q_ev_ix, q_ev_sl, q_ev_call, q_ev_blt, q_ev_isi, q_ev_met, q_ev_tupS, q_ev_lstS, q_ev_rev, q_ev_dnew, q_ev_dzip, q_ev_fnv, q_ev_calv, q_ev_comp2, q_ev_dcomp, q_ev_sls, q_ev_val, q_evs_nil, q_evs_cons, q_evs_star, q_evD_nil, q_evD_cons, q_evAnd_cons, q_evAnd_cons2, q_evOr_cons, q_evOr_cons2, q_evIfs_none, q_evIfs_some, q_evo_none, q_evo_some, q_evi_ex, q_run1_ex, q_run1_set, q_run1_put, q_run1_aug, q_run1_augs, q_run1_ite, q_run1_whl, q_run1_for, q_run1_ret, q_run1_retN, q_run1_rais, q_run1_try, q_run1_brk, q_run1_cnt, q_run1_pas, q_runs_nil, q_runs_cons, q_runH_nil, q_runH_cons, tst, bltop, bindG, bindGs, cmpop, ofB, truthy, int1, int2, ltop, leop, binop, addop, subop, mulop, divop, modop, powop, ixop, items, litems, ditems, mkLst, mkDic, lenop, intop, isiop, tyOf, putop, src, wipeP, metop, metok, isLst, isDic, isStr, isLsq, isTp, appop, popL, getD, slop, revop, tupop, lstop, keyOf, inop, Aes.len, peq, scalP, eqF, isNon, isBl, augop, augix, -ixop, -lenop, -powop, f_law_well, c', ln, f2, f3]
end Mx.FB

end

section
set_option Elab.async false
set_option linter.all false
set_option maxRecDepth 100000
set_option maxHeartbeats 4000000
set_option exponentiation.threshold 20000
namespace Mx.FB
open PySem PySem.Spec PyProof.Rows L2 Mx

/-! a drawn screen -/
def BASE : List Str := ["a", "ab", "abs", "b", "as", "zz", "m", "zab", "mm", "qrstuv"]
theorem base_ok : ∀ x ∈ BASE, isNm x = true ∧ x.length ≤ 8 := by decide +kernel
/-- what has been found, and the names that are left -/
structure Fd (fs : List Rw) (ns : List Str) : Prop where
  nd : (fs.map (·.n) ++ ns).Nodup
  sub : ∀ x ∈ fs.map (·.n) ++ ns, x ∈ BASE
  w : ∀ r ∈ fs, 0 ≤ r.w ∧ 0 ≤ r.h
  lit : ∀ r ∈ fs, (r.l.natAbs < 1000000 ∧ r.u.natAbs < 1000000) ∧ r.w.natAbs < 1000000 ∧ r.h.natAbs < 1000000
theorem Fd.start : Fd [] BASE := ⟨by decide +kernel, fun x hx => by simpa using hx, by simp, by simp⟩
theorem take_perm {α : Type} : ∀ {l : List α} {i : Nat} (h : i < l.length), (l[i] :: l.eraseIdx i).Perm l
  | a :: l, 0, h => List.Perm.refl _
  | a :: l, i + 1, h => by
    have h' : i < l.length := by simpa using h
    have := take_perm h'
    rw [List.getElem_cons_succ, List.eraseIdx_cons_succ]
    exact (List.Perm.swap a l[i] (l.eraseIdx i)).trans (this.cons a)
theorem Fd.step {fs : List Rw} {ns : List Str} (f : Fd fs ns) {i : Nat} (hi : i < ns.length) {r : Rw} (hr : r.n = ns[i]) (w : 0 ≤ r.w ∧ 0 ≤ r.h) (l : (r.l.natAbs < 1000000 ∧ r.u.natAbs < 1000000) ∧ r.w.natAbs < 1000000 ∧ r.h.natAbs < 1000000) : Fd (fs ++ [r]) (ns.eraseIdx i) := by
  have pm : ((fs ++ [r]).map (·.n) ++ ns.eraseIdx i).Perm (fs.map (·.n) ++ ns) := by
    rw [List.map_append, List.append_assoc]
    refine List.Perm.append_left _ ?_
    show (r.n :: ns.eraseIdx i).Perm ns
    rw [hr]
    exact take_perm hi
  refine ⟨pm.nodup_iff.mpr f.nd, fun x hx => f.sub x (pm.mem_iff.mp hx), fun z hz => ?_, fun z hz => ?_⟩
  · rcases List.mem_append.mp hz with hz | hz
    · exact f.w z hz
    · rw [List.mem_singleton] at hz; subst hz; exact w
  · rcases List.mem_append.mp hz with hz | hz
    · exact f.lit z hz
    · rw [List.mem_singleton] at hz; subst hz; exact l
def byN (rs : List Rw) : List Rw := rs.mergeSort fun a b => leS a.n b.n
theorem sortS_asc {l : List Str} (h : l.Nodup) : ascS (l.mergeSort leS) = true := by
  rw [ascS_iff]
  have h1 := List.pairwise_mergeSort leS_trans leS_total l
  have h2 : (l.mergeSort leS).Nodup := (List.mergeSort_perm l leS).nodup_iff.mpr h
  have h3 := h1.and h2
  refine h3.imp fun {a b} ⟨x, y⟩ => ?_
  unfold ltS
  refine decide_eq_true ?_
  rw [leS_iff] at x
  rcases Std.le_iff_lt_or_eq.mp x with q | q
  · exact q
  · refine absurd ?_ y
    cases a; cases b
    simp only at q
    rw [Array.toList_inj] at q
    rw [q]
theorem byN_names (rs : List Rw) : (byN rs).map (·.n) = (rs.map (·.n)).mergeSort leS := List.map_mergeSort fun _ _ _ _ => rfl
theorem byN_rows (rs : List Rw) : (byN rs).map rwP = (rs.map rwP).mergeSort fun x y => leS (kS x) (kS y) := List.map_mergeSort fun _ _ _ _ => rfl
theorem byN_mem {rs : List Rw} {r : Rw} (h : r ∈ byN rs) : r ∈ rs := (List.mergeSort_perm rs _).mem_iff.mp h
theorem Fd.scr {fs : List Rw} {ns : List Str} (f : Fd fs ns) (ne : fs ≠ []) (l : fs.length ≤ 10) : Scr (byN fs) := by
  have ln : (byN fs).length = fs.length := List.length_mergeSort _
  refine ⟨fun e => ?_, by omega, fun r hr => ?_, ?_, fun r hr => f.w r (byN_mem hr), fun r hr => ?_, fun r hr => f.lit r (byN_mem hr)⟩
  · rw [e] at ln
    exact ne (List.length_eq_zero_iff.mp ln.symm)
  · exact base_ok _ (f.sub _ (List.mem_append_left _ (List.mem_map.mpr ⟨r, byN_mem hr, rfl⟩)))
  · rw [byN_names]
    exact sortS_asc (List.nodup_append.mp f.nd).1
  · obtain ⟨⟨a, b⟩, c, d⟩ := f.lit r (byN_mem hr)
    exact ⟨by show _ < 2 ^ 40; omega, by show _ < 2 ^ 40; omega, by show _ < 2 ^ 40; omega, by show _ < 2 ^ 40; omega⟩
theorem sort_rows {fs : List Rw} (ne : fs ≠ []) (nd : (fs.map (·.n)).Nodup) {j : Nat} {h : MH} (hj : h[j]? = some (.lst (fs.map rwP))) : sortop false (.ref j) h = .ok (.lst ((byN fs).map rwP)) h := by
  have k1 : (fs.map rwP).all kOk = true := by
    rw [List.all_eq_true]
    intro x hx
    obtain ⟨r, _, rfl⟩ := List.mem_map.mp hx
    rfl
  have k2 : (fs.map rwP).map kS = fs.map (·.n) := by rw [List.map_map]; rfl
  have i1 : intsOf (fs.map rwP) = none := by
    cases fs with
    | nil => exact absurd rfl ne
    | cons a fs => rfl
  have i2 : strsOf (fs.map rwP) = none := by
    cases fs with
    | nil => exact absurd rfl ne
    | cons a fs => rfl
  unfold sortop
  have li : litems h (.ref j) = some (fs.map rwP) := by simp [litems, hj]
  rw [li]
  simp only [i1, i2]
  rw [if_pos ⟨k1, by rw [k2]; exact nd⟩, byN_rows]
  rfl
theorem seqIx {i n : Nat} (h : i < n) : seqIndex? (i : Int) n = some i := by
  unfold seqIndex?
  simp
  omega
/-- two lists behind -/
theorem two0 {q : MH} {L : Nat} (e : q.length = L) (A B : MO) : (q ++ [A, B])[L]? = some A := by rw [← e]; simp
theorem two1 {q : MH} {L : Nat} (e : q.length = L) (A B : MO) : (q ++ [A, B])[L + 1]? = some B := by rw [← e]; simp
theorem tws0 {q : MH} {L : Nat} (e : q.length = L) (A B X : MO) : (q ++ [A, B]).set L X = q ++ [X, B] := by rw [← e]; simp
theorem tws1 {q : MH} {L : Nat} (e : q.length = L) (A B X : MO) : (q ++ [A, B]).set (L + 1) X = q ++ [A, X] := by rw [← e]; simp
theorem pick {t : Int} (h0 : 0 ≤ t) (h1 : t < 5) (a b c : Int) (ha : 0 ≤ a ∧ a < 1000000) (hb : 0 ≤ b ∧ b < 1000000) (hc : 0 ≤ c ∧ c < 1000000) :
    ∃ j s : Int, (∀ q, ixop (.lst [.int 0, .int 0, .int 0, .int 1, .int 2]) (.int t) q = .ok (.int j) q) ∧ (∀ q, ixop (.lst [.int a, .int b, .int c]) (.int j) q = .ok (.int s) q) ∧ 0 ≤ s ∧ s < 1000000 := by
  have : t = 0 ∨ t = 1 ∨ t = 2 ∨ t = 3 ∨ t = 4 := by omega
  rcases this with rfl | rfl | rfl | rfl | rfl
  · exact ⟨0, a, fun q => rfl, fun q => rfl, ha.1, ha.2⟩
  · exact ⟨0, a, fun q => rfl, fun q => rfl, ha.1, ha.2⟩
  · exact ⟨0, a, fun q => rfl, fun q => rfl, ha.1, ha.2⟩
  · exact ⟨1, b, fun q => rfl, fun q => rfl, hb.1, hb.2⟩
  · exact ⟨2, c, fun q => rfl, fun q => rfl, hc.1, hc.2⟩
end Mx.FB

end

section
set_option Elab.async false
set_option linter.all false
set_option maxRecDepth 100000
set_option maxHeartbeats 4000000
set_option exponentiation.threshold 20000
namespace Mx.FB
open PySem PySem.Spec PyProof.Rows L2 Mx

theorem erase_map {α β : Type} {f : α → β} : ∀ {l : List α} {i : Nat}, (l.map f).eraseIdx i = (l.eraseIdx i).map f
  | [], _ => rfl
  | a :: l, 0 => rfl
  | a :: l, i + 1 => by rw [List.map_cons, List.eraseIdx_cons_succ, List.eraseIdx_cons_succ, List.map_cons, erase_map]
theorem screen_turn {PG : Pg} [Has PG "_law_screen" f_law_screen] [Has PG "_law_dip" f_law_dip] {n : Nat} (hn : 2 ≤ n) {m K : Nat} (hK : K ≤ 90000) (g0 g00 : MH) (c0 : Chg (PK K) m g00 g0) (fs : List Rw) (ns : List Str) (f : Fd fs ns) (nl : 1 ≤ ns.length) (n2 : ns.length ≤ 10) (fl : fs.length ≤ 10) (x : PV) (w3 w4 w5 w6 w7 : Option PV) :
    ∃ (g' : MH) (fs' : List Rw) (ns' : List Str) (w4' w5' w6' w7' : Option PV), turnF PG (call PG n) (.nm 3) (.cons (.set (.nm 4) (.met .pop false (.v 1) (.cons (.call "_law_dip" (.cons (.v 0) (.cons (.blt .len false (.cons (.v 1) .nil)) .nil)) [] .nil) .nil))) (.cons (.set (.nm 5) (.lst false (.cons (.call "_law_dip" (.cons (.v 0) (.cons (.int 9) .nil)) [] .nil) (.cons (.call "_law_dip" (.cons (.v 0) (.cons (.int 4) .nil)) [] .nil) (.cons (.bin .add false (.int 100000) (.call "_law_dip" (.cons (.v 0) (.cons (.int 9) .nil)) [] .nil)) .nil))))) (.cons (.set (.tp (.cons (.nm 6) (.cons (.nm 7) .nil))) (.tup (.cons (.ix (.v 5) (.ix (.lst false (.cons (.int 0) (.cons (.int 0) (.cons (.int 0) (.cons (.int 1) (.cons (.int 2) .nil)))))) (.call "_law_dip" (.cons (.v 0) (.cons (.int 5) .nil)) [] .nil))) (.cons (.ix (.v 5) (.ix (.lst false (.cons (.int 0) (.cons (.int 0) (.cons (.int 0) (.cons (.int 1) (.cons (.int 2) .nil)))))) (.call "_law_dip" (.cons (.v 0) (.cons (.int 5) .nil)) [] .nil))) .nil)))) (.cons (.ex (.met .append false (.v 2) (.cons (.tup (.cons (.v 4) (.cons (.bin .sub false (.call "_law_dip" (.cons (.v 0) (.cons (.int 14) .nil)) [] .nil) (.int 4)) (.cons (.bin .sub false (.call "_law_dip" (.cons (.v 0) (.cons (.int 11) .nil)) [] .nil) (.int 3)) (.cons (.v 6) (.cons (.v 7) .nil)))))) .nil))) .nil)))) x [some (.ref m), some (.ref g00.length), some (.ref (g00.length + 1)), w3, w4, w5, w6, w7] (g0 ++ [.lst (ns.map .str), .lst (fs.map rwP)]) = .nx [some (.ref m), some (.ref g00.length), some (.ref (g00.length + 1)), some x, w4', w5', w6', w7'] (g' ++ [.lst (ns'.map .str), .lst (fs'.map rwP)]) ∧ Chg (PK (K + 8)) m g00 g' ∧ Fd fs' ns' ∧ fs'.length = fs.length + 1 ∧ ns'.length + 1 = ns.length := by
  obtain ⟨t1, h1, e1, u1, v1, d1⟩ := s_dip (PG := PG) (n := n) (K := K + 0) (by omega) (g0 ++ [.lst (ns.map .str), .lst (fs.map rwP)]) (ns.length : Int) (c0.pk.app _) (by omega) (by omega) (by omega)
  obtain ⟨g1, rfl, d1'⟩ := d1.split c0.pk.lt
  have c1 := Chg.tr c0 d1'
  have l1 := c1.len
  obtain ⟨i, rfl⟩ := Int.eq_ofNat_of_zero_le u1
  have hi : i < ns.length := by omega
  obtain ⟨t2, h2, e2, u2, v2, d2⟩ := s_dip (PG := PG) (n := n) (K := K + 1) (by omega) (g1 ++ [.lst ((ns.eraseIdx i).map .str), .lst (fs.map rwP)]) 9 (c1.pk.app _) (by decide) (by decide) (by omega)
  obtain ⟨g2, rfl, d2'⟩ := d2.split c1.pk.lt
  have c2 := Chg.tr c1 d2'
  have l2 := c2.len
  obtain ⟨t3, h3, e3, u3, v3, d3⟩ := s_dip (PG := PG) (n := n) (K := K + 2) (by omega) (g2 ++ [.lst ((ns.eraseIdx i).map .str), .lst (fs.map rwP)]) 4 (c2.pk.app _) (by decide) (by decide) (by omega)
  obtain ⟨g3, rfl, d3'⟩ := d3.split c2.pk.lt
  have c3 := Chg.tr c2 d3'
  have l3 := c3.len
  obtain ⟨t4, h4, e4, u4, v4, d4⟩ := s_dip (PG := PG) (n := n) (K := K + 3) (by omega) (g3 ++ [.lst ((ns.eraseIdx i).map .str), .lst (fs.map rwP)]) 9 (c3.pk.app _) (by decide) (by decide) (by omega)
  obtain ⟨g4, rfl, d4'⟩ := d4.split c3.pk.lt
  have c4 := Chg.tr c3 d4'
  have l4 := c4.len
  obtain ⟨t5, h5, e5, u5, v5, d5⟩ := s_dip (PG := PG) (n := n) (K := K + 4) (by omega) (g4 ++ [.lst ((ns.eraseIdx i).map .str), .lst (fs.map rwP)]) 5 (c4.pk.app _) (by decide) (by decide) (by omega)
  obtain ⟨g5, rfl, d5'⟩ := d5.split c4.pk.lt
  have c5 := Chg.tr c4 d5'
  have l5 := c5.len
  obtain ⟨t6, h6, e6, u6, v6, d6⟩ := s_dip (PG := PG) (n := n) (K := K + 5) (by omega) (g5 ++ [.lst ((ns.eraseIdx i).map .str), .lst (fs.map rwP)]) 5 (c5.pk.app _) (by decide) (by decide) (by omega)
  obtain ⟨g6, rfl, d6'⟩ := d6.split c5.pk.lt
  have c6 := Chg.tr c5 d6'
  have l6 := c6.len
  obtain ⟨t7, h7, e7, u7, v7, d7⟩ := s_dip (PG := PG) (n := n) (K := K + 6) (by omega) (g6 ++ [.lst ((ns.eraseIdx i).map .str), .lst (fs.map rwP)]) 14 (c6.pk.app _) (by decide) (by decide) (by omega)
  obtain ⟨g7, rfl, d7'⟩ := d7.split c6.pk.lt
  have c7 := Chg.tr c6 d7'
  have l7 := c7.len
  obtain ⟨t8, h8, e8, u8, v8, d8⟩ := s_dip (PG := PG) (n := n) (K := K + 7) (by omega) (g7 ++ [.lst ((ns.eraseIdx i).map .str), .lst (fs.map rwP)]) 11 (c7.pk.app _) (by decide) (by decide) (by omega)
  obtain ⟨g8, rfl, d8'⟩ := d8.split c7.pk.lt
  have c8 := Chg.tr c7 d8'
  have l8 := c8.len
  obtain ⟨j5, s5, p5, q5, r5, z5⟩ := pick u5 v5 t2 t3 (100000 + t4) (by omega) (by omega) (by omega)
  obtain ⟨j6, s6, p6, q6, r6, z6⟩ := pick u6 v6 t2 t3 (100000 + t4) (by omega) (by omega) (by omega)
  have ep : popI (.ref g00.length) (.int (i : Int)) (g1 ++ [.lst (ns.map .str), .lst (fs.map rwP)]) = .ok (.str ns[i]) (g1 ++ [.lst ((ns.eraseIdx i).map .str), .lst (fs.map rwP)]) := by
    unfold popI
    simp only [two0 l1, List.length_map, seqIx hi]
    rw [List.getElem?_map, List.getElem?_eq_getElem hi]
    simp only [Option.map_some]
    rw [if_pos (by omega), tws0 l1, erase_map]
  have a0 := two0 c0.len (.lst (ns.map .str)) (.lst (fs.map rwP))
  have a1 := two0 l1 (.lst (ns.map .str)) (.lst (fs.map rwP))
  have a8 := two1 l8 (.lst ((ns.eraseIdx i).map .str)) (.lst (fs.map rwP))
  have a6 := two1 l6 (.lst ((ns.eraseIdx i).map .str)) (.lst (fs.map rwP))
  have s8 := tws1 l8 (.lst ((ns.eraseIdx i).map .str)) (.lst (fs.map rwP))
  have ln : lenop (.ref g00.length) (g0 ++ [.lst (ns.map .str), .lst (fs.map rwP)]) = .ok (.int (ns.length : Int)) (g0 ++ [.lst (ns.map .str), .lst (fs.map rwP)]) := by
    simp [lenop, items, a0]
  have il : isLst (g1 ++ [.lst (ns.map .str), .lst (fs.map rwP)]) (.ref g00.length) = true := by simp [isLst, a1]
  have il0 : isLst (g0 ++ [.lst (ns.map .str), .lst (fs.map rwP)]) (.ref g00.length) = true := by simp [isLst, a0]
  have zl : (fs.map rwP).length < sizeLine := by rw [List.length_map, sizeLine_eq]; omega
  refine ⟨g8, fs ++ [⟨ns[i], t7 - 4, t8 - 3, s5, s6⟩], ns.eraseIdx i, some (.str ns[i]), some (.lst [.int t2, .int t3, .int (100000 + t4)]), some (.int s5), some (.int s6), ?_, c8, f.step hi rfl ⟨r5, r6⟩ ⟨⟨by show (t7 - 4).natAbs < _; omega, by show (t8 - 3).natAbs < _; omega⟩, by show s5.natAbs < _; omega, by show s6.natAbs < _; omega⟩, by simp, by rw [List.length_eraseIdx, if_pos hi]; omega⟩
  rw [List.map_append]
  show _ = Out.nx _ (g8 ++ [_, .lst (fs.map rwP ++ [.tup [.str ns[i], .int (t7 - 4), .int (t8 - 3), .int s5, .int s6]])])
  have sl3 : [PV.int t2, .int t3, .int (100000 + t4)].length ≤ sizeLine := by rw [sizeLine_eq]; simp
  generalize hN : ns.map PV.str = NS at *
  generalize hE : (ns.eraseIdx i).map PV.str = NE at *
  generalize fs.map rwP = FS at *
  generalize ns[i] = name at *
  simp [body, q_ev_v, q_ev_non, q_ev_bl, q_ev_int, q_ev_str, q_ev_con, q_ev_tup, q_ev_lst, q_ev_bin, q_ev_neg, q_ev_not, q_ev_cmp, q_ev_chain, q_ev_and, q_ev_or, q_ev_ifx, q_ev_ix, q_ev_sl, q_ev_call, q_ev_blt, q_ev_isi, q_ev_met, q_ev_tupS, q_ev_lstS, q_ev_rev, q_ev_dnew, q_ev_dzip, q_ev_fnv, q_ev_calv, q_ev_comp2, q_ev_dcomp, q_ev_sls, q_ev_val, q_evs_nil, q_evs_cons, q_evs_star, q_evD_nil, q_evD_cons, q_evAnd_cons, q_evAnd_cons2, q_evOr_cons, q_evOr_cons2, q_evIfs_none, q_evIfs_some, q_evo_none, q_evo_some, q_evi_ex, q_run1_ex, q_run1_set, q_run1_put, q_run1_aug, q_run1_augs, q_run1_ite, q_run1_whl, q_run1_for, q_run1_ret, q_run1_retN, q_run1_rais, q_run1_try, q_run1_brk, q_run1_cnt, q_run1_pas, q_runs_nil, q_runs_cons, q_runH_nil, q_runH_cons, tst, bltop, bindG, bindGs, cmpop, ofB, truthy, int1, int2, ltop, leop, binop, addop, subop, mulop, divop, modop, powop, ixop, items, litems, ditems, mkLst, mkDic, lenop, intop, isiop, tyOf, putop, src, wipeP, metop, metok, isLst, isDic, isStr, isLsq, isTp, appop, popL, getD, slop, revop, tupop, lstop, keyOf, inop, Aes.len, peq, scalP, eqF, isNon, isBl, augop, augix, -ixop, -lenop, -isLst, turnF, ln, il, il0, e1, ep, e2, e3, e4, e5, e6, e7, e8, p5, q5, p6, q6, a6, a8, s8, zl]
end Mx.FB

end

section
set_option Elab.async false
set_option linter.all false
set_option maxRecDepth 100000
set_option maxHeartbeats 4000000
set_option exponentiation.threshold 20000
namespace Mx.FB
open PySem PySem.Spec PyProof.Rows L2 Mx

theorem s_law_screen {PG : Pg} [Has PG "_law_screen" f_law_screen] [Has PG "_law_dip" f_law_dip] {n : Nat} (hn : 3 ≤ n) {m K : Nat} (hK : K ≤ 80000) (h : MH) (hD : Pk K h m) : ∃ (rs : List Rw) (h' : MH), call PG n "_law_screen" [.ref m] [] [] h = .ok (.tup (rs.map rwP)) h' ∧ Scr rs ∧ Chg (PK (K + 49)) m h h' := by
  rw [call_ge (by omega) rfl]
  obtain ⟨t, h1, e1, t0, t1, d1⟩ := s_dip (PG := PG) (n := n - 1) (by omega) (h ++ [.lst (BASE.map .str), .lst (([] : List Rw).map rwP)]) 6 (hD.app _) (by decide) (by decide) (by omega)
  obtain ⟨g1, rfl, c1⟩ := d1.split hD.lt
  obtain ⟨t, rfl⟩ := Int.eq_ofNat_of_zero_le t0
  have er := rng1 (P := PG) (cl := call PG (n - 1)) (e := (.bin .add false (.int 1) (.call "_law_dip" (.cons (.v 0) (.cons (.int 6) .nil)) [] .nil))) (ρ := [some (.ref m), some (.ref h.length), some (.ref (h.length + 1)), none, none, none, none, none]) (h := h ++ [.lst (BASE.map .str), .lst (([] : List Rw).map rwP)]) (h' := g1 ++ [.lst (BASE.map .str), .lst (([] : List Rw).map rwP)]) (n := 1 + (t : Int)) (by simp only [List.map_nil] at e1 ⊢; generalize BASE.map PV.str = B at *; simp [body, q_ev_v, q_ev_non, q_ev_bl, q_ev_int, q_ev_str, q_ev_con, q_ev_tup, q_ev_lst, q_ev_bin, q_ev_neg, q_ev_not, q_ev_cmp, q_ev_chain, q_ev_and, q_ev_or, q_ev_ifx, q_ev_ix, q_ev_sl, q_ev_call, q_ev_blt, q_ev_isi, q_ev_met, q_ev_tupS, q_ev_lstS, q_ev_rev, q_ev_dnew, q_ev_dzip, q_ev_fnv, q_ev_calv, q_ev_comp2, q_ev_dcomp, q_ev_sls, q_ev_val, q_evs_nil, q_evs_cons, q_evs_star, q_evD_nil, q_evD_cons, q_evAnd_cons, q_evAnd_cons2, q_evOr_cons, q_evOr_cons2, q_evIfs_none, q_evIfs_some, q_evo_none, q_evo_some, q_evi_ex, q_run1_ex, q_run1_set, q_run1_put, q_run1_aug, q_run1_augs, q_run1_ite, q_run1_whl, q_run1_for, q_run1_ret, q_run1_retN, q_run1_rais, q_run1_try, q_run1_brk, q_run1_cnt, q_run1_pas, q_runs_nil, q_runs_cons, q_runH_nil, q_runH_cons, tst, bltop, bindG, bindGs, cmpop, ofB, truthy, int1, int2, ltop, leop, binop, addop, subop, mulop, divop, modop, powop, ixop, items, litems, ditems, mkLst, mkDic, lenop, intop, isiop, tyOf, putop, src, wipeP, metop, metok, isLst, isDic, isStr, isLsq, isTp, appop, popL, getD, slop, revop, tupop, lstop, keyOf, inop, Aes.len, peq, scalP, eqF, isNon, isBl, augop, augix, e1]) (by omega)
  have et : (1 + (t : Int)).toNat = t + 1 := by omega
  rw [et] at er
  obtain ⟨ρ', hh, el, g, fs, ns, w3, w4, w5, w6, w7, rfl, rfl, cg, f, lf, ln⟩ := for_rel (α := Nat) (g := fun k : Nat => PV.int (k : Int)) (l := []) (body := turnF PG (call PG (n - 1)) (.nm 3) (.cons (.set (.nm 4) (.met .pop false (.v 1) (.cons (.call "_law_dip" (.cons (.v 0) (.cons (.blt .len false (.cons (.v 1) .nil)) .nil)) [] .nil) .nil))) (.cons (.set (.nm 5) (.lst false (.cons (.call "_law_dip" (.cons (.v 0) (.cons (.int 9) .nil)) [] .nil) (.cons (.call "_law_dip" (.cons (.v 0) (.cons (.int 4) .nil)) [] .nil) (.cons (.bin .add false (.int 100000) (.call "_law_dip" (.cons (.v 0) (.cons (.int 9) .nil)) [] .nil)) .nil))))) (.cons (.set (.tp (.cons (.nm 6) (.cons (.nm 7) .nil))) (.tup (.cons (.ix (.v 5) (.ix (.lst false (.cons (.int 0) (.cons (.int 0) (.cons (.int 0) (.cons (.int 1) (.cons (.int 2) .nil)))))) (.call "_law_dip" (.cons (.v 0) (.cons (.int 5) .nil)) [] .nil))) (.cons (.ix (.v 5) (.ix (.lst false (.cons (.int 0) (.cons (.int 0) (.cons (.int 0) (.cons (.int 1) (.cons (.int 2) .nil)))))) (.call "_law_dip" (.cons (.v 0) (.cons (.int 5) .nil)) [] .nil))) .nil)))) (.cons (.ex (.met .append false (.v 2) (.cons (.tup (.cons (.v 4) (.cons (.bin .sub false (.call "_law_dip" (.cons (.v 0) (.cons (.int 14) .nil)) [] .nil) (.int 4)) (.cons (.bin .sub false (.call "_law_dip" (.cons (.v 0) (.cons (.int 11) .nil)) [] .nil) (.int 3)) (.cons (.v 6) (.cons (.v 7) .nil)))))) .nil))) .nil)))))
    (fun xs ρ hh => ∃ (g : MH) (fs : List Rw) (ns : List Str) (w3 w4 w5 w6 w7 : Option PV), ρ = [some (.ref m), some (.ref h.length), some (.ref (h.length + 1)), w3, w4, w5, w6, w7] ∧ hh = g ++ [.lst (ns.map .str), .lst (fs.map rwP)] ∧ Chg (PK (K + 1 + 8 * fs.length)) m h g ∧ Fd fs ns ∧ fs.length + xs.length = t + 1 ∧ ns.length + fs.length = 10) (fun _ _ _ _ => chk_nil) (fun y xs ρ hh ⟨g, fs, ns, w3, w4, w5, w6, w7, r1, r2, cg, f, lf, ln⟩ => by
      subst r1; subst r2
      simp only [List.length_cons] at lf
      obtain ⟨g', fs', ns', a4, a5, a6, a7, q1, q2, q3, q4, q5⟩ := screen_turn (PG := PG) (n := n - 1) (by omega) (K := K + 1 + 8 * fs.length) (by omega) g h cg fs ns f (by omega) (by omega) (by omega) (.int (y : Int)) w3 w4 w5 w6 w7
      exact ⟨_, _, .inl q1, g', fs', ns', _, _, _, _, _, rfl, rfl, Chg.mono q2 (by omega), q3, by omega, by omega⟩) (List.range (t + 1)) [some (.ref m), some (.ref h.length), some (.ref (h.length + 1)), none, none, none, none, none] (g1 ++ [.lst (BASE.map .str), .lst (([] : List Rw).map rwP)]) ⟨g1, [], BASE, none, none, none, none, none, rfl, rfl, Chg.mono c1 (by omega), Fd.start, by simp, by decide⟩
  simp only [List.length_nil, Nat.add_zero] at lf
  have e6 : run1 PG (call PG (n - 1)) l_law_screen_1 [some (.ref m), some (.ref h.length), some (.ref (h.length + 1)), none, none, none, none, none] (h ++ [.lst [.str "a", .str "ab", .str "abs", .str "b", .str "as", .str "zz", .str "m", .str "zab", .str "mm", .str "qrstuv"], .lst []]) = _ := (for_run rfl er).trans el
  have ne : fs ≠ [] := fun q => by rw [q] at lf; simp at lf
  have es := sort_rows ne (List.nodup_append.mp f.nd).1 (j := h.length + 1) (h := g ++ [.lst (ns.map .str), .lst (fs.map rwP)]) (two1 cg.len _ _)
  refine ⟨byN fs, g, ?_, f.scr ne (by omega), Chg.mono cg (by omega)⟩
  have D : Dts ((byN fs).map rwP) := inferInstance
  generalize ns.map PV.str = NS at *
  generalize (byN fs).map rwP = BF at *
  generalize fs.map rwP = FS at *
  simp [body, q_ev_v, q_ev_non, q_ev_bl, q_ev_int, q_ev_str, q_ev_con, q_ev_tup, q_ev_lst, q_ev_bin, q_ev_neg, q_ev_not, q_ev_cmp, q_ev_chain, q_ev_and, q_ev_or, q_ev_ifx, q_ev_ix, q_ev_sl, q_ev_call, q_ev_blt, q_ev_isi, q_ev_met, q_ev_tupS, q_ev_lstS, q_ev_rev, q_ev_dnew, q_ev_dzip, q_ev_fnv, q_ev_calv, q_ev_comp2, q_ev_dcomp, q_ev_sls, q_ev_val, q_evs_nil, q_evs_cons, q_evs_star, q_evD_nil, q_evD_cons, q_evAnd_cons, q_evAnd_cons2, q_evOr_cons, q_evOr_cons2, q_evIfs_none, q_evIfs_some, q_evo_none, q_evo_some, q_evi_ex, q_run1_ex, q_run1_set, q_run1_put, q_run1_aug, q_run1_augs, q_run1_ite, q_run1_whl, q_run1_for, q_run1_ret, q_run1_retN, q_run1_rais, q_run1_try, q_run1_brk, q_run1_cnt, q_run1_pas, q_runs_nil, q_runs_cons, q_runH_nil, q_runH_cons, tst, bltop, bindG, bindGs, cmpop, ofB, truthy, int1, int2, ltop, leop, binop, addop, subop, mulop, divop, modop, powop, ixop, items, litems, ditems, mkLst, mkDic, lenop, intop, isiop, tyOf, putop, src, wipeP, metop, metok, isLst, isDic, isStr, isLsq, isTp, appop, popL, getD, slop, revop, tupop, lstop, keyOf, inop, Aes.len, peq, scalP, eqF, isNon, isBl, augop, augix, f_law_screen, e6, es]
  exact cg.end_rt PK.below
end Mx.FB

end

section
set_option Elab.async false
set_option linter.all false
set_option maxRecDepth 100000
set_option maxHeartbeats 4000000
set_option exponentiation.threshold 20000
namespace Mx.FB
open PySem PySem.Spec PyProof.Rows L2 Mx

theorem pick4 {t : Int} (h0 : 0 ≤ t) (h1 : t < 4) (s : Int) (hs : s.natAbs < 1000000) :
    ∃ z : Int, (∀ q, ixop (.lst [.int (-1), .int 0, .int (s - 1), .int s]) (.int t) q = .ok (.int z) q) ∧ z.natAbs < 2000000 := by
  have : t = 0 ∨ t = 1 ∨ t = 2 ∨ t = 3 := by omega
  rcases this with rfl | rfl | rfl | rfl
  · exact ⟨-1, fun q => rfl, by decide⟩
  · exact ⟨0, fun q => rfl, by decide⟩
  · exact ⟨s - 1, fun q => rfl, by omega⟩
  · exact ⟨s, fun q => rfl, by omega⟩
theorem hit_turn {PG : Pg} [Has PG "_law_right" f_law_right] [Has PG "drawn" f_drawn] [Has PG "is_integer" f_is_integer] [Has PG "numbered" f_numbered] [Has PG "is_ascending" f_is_ascending] [Has PG "is_number" f_is_number] [Has PG "is_pair" f_is_pair] [Has PG "lowest" f_lowest] [Has PG "is_row" f_is_row] [Has PG "is_name" f_is_name] [Has PG "as_number" f_as_number] [Has PG "top_name" f_top_name] [Has PG "covers" f_covers] [Has PG "is_less" f_is_less] [Has PG "along" f_along] [Has PG "sum_of_two" f_sum_of_two] [Has PG "hit" f_hit] [Has PG "_law_dip" f_law_dip] [Has PG "_law_same" f_law_same] [Has PG "_law_screen" f_law_screen] [Has PG "_law_top" f_law_top] [Has PG "_law_signs" f_law_signs] [HasC PG "AXES" (.tup [(.str "across"), (.str "down")])] [HasC PG "LETTERS" (.str "abcdefghijklmnopqrstuvwxyz")] [HasC PG "MOST_NAME" (.int 8)] {n : Nat} (hn : 7 ≤ n) {m K : Nat} (hK : K ≤ 90000) (g00 g0 : MH) (c0 : Chg (PK K) m g00 g0) {rs : List Rw} (s : Scr rs) (X : MO) (y : Nat) (w2 w3 w4 w5 w6 w7 w8 w9 w10 : Option PV) :
    ∃ (g' : MH) (w7' w8' w9' : Option PV), turnF PG (call PG n) (.nm 6) (.cons (.set (.nm 7) (.ix (.v 1) (.call "_law_dip" (.cons (.v 0) (.cons (.blt .len false (.cons (.v 1) .nil)) .nil)) [] .nil))) (.cons (.set (.tp (.cons (.nm 8) (.cons (.nm 9) .nil))) (.tup (.cons (.bin .sub false (.call "_law_dip" (.cons (.v 0) (.cons (.int 20) .nil)) [] .nil) (.int 6)) (.cons (.bin .sub false (.call "_law_dip" (.cons (.v 0) (.cons (.int 16) .nil)) [] .nil) (.int 5)) .nil)))) (.cons (.ite (.cmp .eq (.bin .mod false (.v 6) (.int 3)) (.int 0)) (.cons (.set (.nm 8) (.bin .add false (.ix (.v 7) (.int 1)) (.ix (.lst false (.cons (.neg (.int 1)) (.cons (.int 0) (.cons (.bin .sub false (.ix (.v 7) (.int 3)) (.int 1)) (.cons (.ix (.v 7) (.int 3)) .nil))))) (.call "_law_dip" (.cons (.v 0) (.cons (.int 4) .nil)) [] .nil)))) (.cons (.set (.nm 9) (.bin .add false (.ix (.v 7) (.int 2)) (.ix (.lst false (.cons (.neg (.int 1)) (.cons (.int 0) (.cons (.bin .sub false (.ix (.v 7) (.int 4)) (.int 1)) (.cons (.ix (.v 7) (.int 4)) .nil))))) (.call "_law_dip" (.cons (.v 0) (.cons (.int 4) .nil)) [] .nil)))) .nil)) .nil) (.cons (.ite (.not (.call "_law_same" (.cons (.call "hit" (.cons (.v 1) (.cons (.v 8) (.cons (.v 9) .nil))) [] .nil) (.cons (.call "_law_top" (.cons (.v 1) (.cons (.v 8) (.cons (.v 9) .nil))) [] .nil) .nil)) [] .nil)) (.cons (.ret (.bl false)) .nil) .nil) .nil)))) (.int (y : Int)) [some (.ref m), some (.tup (rs.map rwP)), w2, w3, w4, w5, w6, w7, w8, w9, w10] (g0 ++ [X]) = .nx [some (.ref m), some (.tup (rs.map rwP)), w2, w3, w4, w5, some (.int (y : Int)), w7', w8', w9', w10] (g' ++ [X]) ∧ Chg (PK (K + 5)) m g00 g' := by
  have r10 := s.len
  have r1 : 1 ≤ rs.length := by
    have := s.ne
    cases rs with
    | nil => exact absurd rfl this
    | cons a rs => simp
  obtain ⟨t1, h1, e1, u1, v1, d1⟩ := s_dip (PG := PG) (n := n) (K := K + 0) (by omega) (g0 ++ [X]) (rs.length : Int) (c0.pk.app _) (by omega) (by omega) (by omega)
  obtain ⟨g1, rfl, d1'⟩ := d1.split c0.pk.lt
  have c1 := Chg.tr c0 d1'
  obtain ⟨t2, h2, e2, u2, v2, d2⟩ := s_dip (PG := PG) (n := n) (K := K + 1) (by omega) (g1 ++ [X]) 20 (c1.pk.app _) (by decide) (by decide) (by omega)
  obtain ⟨g2, rfl, d2'⟩ := d2.split c1.pk.lt
  have c2 := Chg.tr c1 d2'
  obtain ⟨t3, h3, e3, u3, v3, d3⟩ := s_dip (PG := PG) (n := n) (K := K + 2) (by omega) (g2 ++ [X]) 16 (c2.pk.app _) (by decide) (by decide) (by omega)
  obtain ⟨g3, rfl, d3'⟩ := d3.split c2.pk.lt
  have c3 := Chg.tr c2 d3'
  obtain ⟨i, rfl⟩ := Int.eq_ofNat_of_zero_le u1
  have hi : i < rs.length := by omega
  have sm := s.sm rs[i] (List.getElem_mem hi)
  have ei : ∀ q, ixop (.tup (rs.map rwP)) (.int (i : Int)) q = .ok (rwP rs[i]) q := fun q => by
    have : atI (rs.map rwP) (i : Int) = some (rwP rs[i]) := by rw [atI_nat (by simpa using hi)]; simp
    simp [ixop, ditems, items, this]
  have ln : ∀ q, lenop (.tup (rs.map rwP)) q = .ok (.int (rs.length : Int)) q := fun q => by simp [lenop, items]
  generalize rs[i] = r at *
  have i1 : ∀ q, ixop (rwP r) (.int 1) q = .ok (.int r.l) q := fun q => rfl
  have i2 : ∀ q, ixop (rwP r) (.int 2) q = .ok (.int r.u) q := fun q => rfl
  have i3 : ∀ q, ixop (rwP r) (.int 3) q = .ok (.int r.w) q := fun q => rfl
  have i4 : ∀ q, ixop (rwP r) (.int 4) q = .ok (.int r.h) q := fun q => rfl
  have f3 : fitd 3 := fitd_z (k := 64) (by decide) (by decide)
  have hh := fun (q : MH) (x y : Int) (hx : Lit x) (hy : Lit y) => s_hit (PG := PG) (n := n) (by omega) q s x y hx hy
  have tt := fun (q : MH) (x y : Int) => s_law_top (PG := PG) (n := n) (by omega) q rs x y
  have ss := fun (q : MH) (x y : Int) => s_same_str (PG := PG) (n := n) (by omega) q (topR rs x y)
  by_cases cy : (y : Int).fmod 3 = 0
  · obtain ⟨t4, h4, e4, u4, v4, d4⟩ := s_dip (PG := PG) (n := n) (K := K + 3) (by omega) (g3 ++ [X]) 4 (c3.pk.app _) (by decide) (by decide) (by omega)
    obtain ⟨g4, rfl, d4'⟩ := d4.split c3.pk.lt
    have c4 := Chg.tr c3 d4'
    obtain ⟨t5, h5, e5, u5, v5, d5⟩ := s_dip (PG := PG) (n := n) (K := K + 4) (by omega) (g4 ++ [X]) 4 (c4.pk.app _) (by decide) (by decide) (by omega)
    obtain ⟨g5, rfl, d5'⟩ := d5.split c4.pk.lt
    have c5 := Chg.tr c4 d5'
    obtain ⟨z4, p4, b4⟩ := pick4 u4 v4 r.w sm.2.1
    obtain ⟨z5, p5, b5⟩ := pick4 u5 v5 r.h sm.2.2
    have L1 : Lit (r.l + z4) := by show (r.l + z4).natAbs < 2 ^ 40; omega
    have L2 : Lit (r.u + z5) := by show (r.u + z5).natAbs < 2 ^ 40; omega
    have hh := fun q => hh q _ _ L1 L2
    refine ⟨g5, some (rwP r), some (.int (r.l + z4)), some (.int (r.u + z5)), ?_, c5⟩
    generalize rs.map rwP = RS at *
    generalize rwP r = R at *
    simp [body, q_ev_v, q_ev_non, q_ev_bl, q_ev_int, q_ev_str, q_ev_con, q_ev_tup, q_ev_lst, q_ev_bin, q_ev_neg, q_ev_not, q_ev_cmp, q_ev_chain, q_ev_and, q_ev_or, q_ev_ifx, q_ev_ix, q_ev_sl, q_ev_call, q_ev_blt, q_ev_isi, q_ev_met, q_ev_tupS, q_ev_lstS, q_ev_rev, q_ev_dnew, q_ev_dzip, q_ev_fnv, q_ev_calv, q_ev_comp2, q_ev_dcomp, q_ev_sls, q_ev_val, q_evs_nil, q_evs_cons, q_evs_star, q_evD_nil, q_evD_cons, q_evAnd_cons, q_evAnd_cons2, q_evOr_cons, q_evOr_cons2, q_evIfs_none, q_evIfs_some, q_evo_none, q_evo_some, q_evi_ex, q_run1_ex, q_run1_set, q_run1_put, q_run1_aug, q_run1_augs, q_run1_ite, q_run1_whl, q_run1_for, q_run1_ret, q_run1_retN, q_run1_rais, q_run1_try, q_run1_brk, q_run1_cnt, q_run1_pas, q_runs_nil, q_runs_cons, q_runH_nil, q_runH_cons, tst, bltop, bindG, bindGs, cmpop, ofB, truthy, int1, int2, ltop, leop, binop, addop, subop, mulop, divop, modop, powop, ixop, items, litems, ditems, mkLst, mkDic, lenop, intop, isiop, tyOf, putop, src, wipeP, metop, metok, isLst, isDic, isStr, isLsq, isTp, appop, popL, getD, slop, revop, tupop, lstop, keyOf, inop, Aes.len, peq, scalP, eqF, isNon, isBl, augop, augix, -ixop, -lenop, turnF, ln, e1, e2, e3, e4, e5, ei, i1, i2, i3, i4, f3, cy, p4, p5, hh, tt, ss]
  · have L1 : Lit (t2 - 6) := by show (t2 - 6).natAbs < 2 ^ 40; omega
    have L2 : Lit (t3 - 5) := by show (t3 - 5).natAbs < 2 ^ 40; omega
    have hh := fun q => hh q _ _ L1 L2
    have cy' : ((y : Int).fmod 3 == 0) = false := beq_f cy
    refine ⟨g3, some (rwP r), some (.int (t2 - 6)), some (.int (t3 - 5)), ?_, Chg.mono c3 (by omega)⟩
    generalize rs.map rwP = RS at *
    generalize rwP r = R at *
    simp [body, q_ev_v, q_ev_non, q_ev_bl, q_ev_int, q_ev_str, q_ev_con, q_ev_tup, q_ev_lst, q_ev_bin, q_ev_neg, q_ev_not, q_ev_cmp, q_ev_chain, q_ev_and, q_ev_or, q_ev_ifx, q_ev_ix, q_ev_sl, q_ev_call, q_ev_blt, q_ev_isi, q_ev_met, q_ev_tupS, q_ev_lstS, q_ev_rev, q_ev_dnew, q_ev_dzip, q_ev_fnv, q_ev_calv, q_ev_comp2, q_ev_dcomp, q_ev_sls, q_ev_val, q_evs_nil, q_evs_cons, q_evs_star, q_evD_nil, q_evD_cons, q_evAnd_cons, q_evAnd_cons2, q_evOr_cons, q_evOr_cons2, q_evIfs_none, q_evIfs_some, q_evo_none, q_evo_some, q_evi_ex, q_run1_ex, q_run1_set, q_run1_put, q_run1_aug, q_run1_augs, q_run1_ite, q_run1_whl, q_run1_for, q_run1_ret, q_run1_retN, q_run1_rais, q_run1_try, q_run1_brk, q_run1_cnt, q_run1_pas, q_runs_nil, q_runs_cons, q_runH_nil, q_runH_cons, tst, bltop, bindG, bindGs, cmpop, ofB, truthy, int1, int2, ltop, leop, binop, addop, subop, mulop, divop, modop, powop, ixop, items, litems, ditems, mkLst, mkDic, lenop, intop, isiop, tyOf, putop, src, wipeP, metop, metok, isLst, isDic, isStr, isLsq, isTp, appop, popL, getD, slop, revop, tupop, lstop, keyOf, inop, Aes.len, peq, scalP, eqF, isNon, isBl, augop, augix, -ixop, -lenop, turnF, ln, e1, e2, e3, ei, f3, cy, cy', hh, tt, ss]
end Mx.FB

end

section
set_option Elab.async false
set_option linter.all false
set_option maxRecDepth 100000
set_option maxHeartbeats 4000000
set_option exponentiation.threshold 20000
namespace Mx.FB
open PySem PySem.Spec PyProof.Rows L2 Mx

theorem pic_len (rs : List Rw) (W H : Nat) : (pic rs W H).length = H := by unfold pic; simp
theorem s_law_right {PG : Pg} [Has PG "_law_right" f_law_right] [Has PG "drawn" f_drawn] [Has PG "is_integer" f_is_integer] [Has PG "numbered" f_numbered] [Has PG "is_ascending" f_is_ascending] [Has PG "is_number" f_is_number] [Has PG "is_pair" f_is_pair] [Has PG "lowest" f_lowest] [Has PG "is_row" f_is_row] [Has PG "is_name" f_is_name] [Has PG "as_number" f_as_number] [Has PG "top_name" f_top_name] [Has PG "covers" f_covers] [Has PG "is_less" f_is_less] [Has PG "along" f_along] [Has PG "sum_of_two" f_sum_of_two] [Has PG "hit" f_hit] [Has PG "_law_dip" f_law_dip] [Has PG "_law_same" f_law_same] [Has PG "_law_screen" f_law_screen] [Has PG "_law_top" f_law_top] [Has PG "_law_signs" f_law_signs] [HasC PG "AXES" (.tup [(.str "across"), (.str "down")])] [HasC PG "LETTERS" (.str "abcdefghijklmnopqrstuvwxyz")] [HasC PG "MOST_NAME" (.int 8)] {n : Nat} (hn : 9 ≤ n) {m K : Nat} (hK : K ≤ 1000) (h : MH) (hD : Pk K h m) : ∃ h', call PG n "_law_right" [.ref m] [] [] h = .ok (.bl true) h' ∧ h'.length = h.length := by
  rw [call_ge (by omega) rfl]
  obtain ⟨rs, h1, e1, s, c1⟩ := s_law_screen (PG := PG) (n := n - 1) (by omega) (by omega) h hD
  obtain ⟨t2, h2, e2, u2, v2, d2⟩ := s_dip (PG := PG) (n := n - 1) (K := K + 49) (by omega) h1 13 c1.pk (by decide) (by decide) (by omega)
  have c2 := Chg.tr c1 d2
  obtain ⟨t3, h3, e3, u3, v3, d3⟩ := s_dip (PG := PG) (n := n - 1) (K := K + 49 + 1) (by omega) h2 9 c2.pk (by decide) (by decide) (by omega)
  have c3 := Chg.tr c2 d3
  obtain ⟨W, rfl⟩ := Int.eq_ofNat_of_zero_le u2
  obtain ⟨H, rfl⟩ := Int.eq_ofNat_of_zero_le u3
  have sg := fun q (W H : Nat) (hW : W ≤ 100) (hH : H ≤ 100) => s_law_signs (PG := PG) (n := n - 1) (by omega) q s.nm W H hW hH
  have dr := fun q (W H : Nat) (hW : W ≤ 100) (hH : H ≤ 100) => s_drawn (PG := PG) (n := n - 1) (by omega) q s W H hW hH
  have e4 := sg h3 W H (by omega) (by omega)
  have e5 := dr h3 W H (by omega) (by omega)
  have e6 := same_ref (PG := PG) (n := n - 1) (by omega) (h3 ++ [.lst ((pic rs W H).map .str)]) (ss := pic rs W H) (by rw [pic_len]; omega) (j := h3.length) (by simp)
  have zl : ((pic rs W H).map PV.str).length < sizeLine := by rw [List.length_map, pic_len, sizeLine_eq]; omega
  -- the loop
  have X0 : ∃ X : MO, X = MO.lst ((((pic rs W H).map PV.str) ++ [PV.str ""]).set 0 (PV.str "x")) := ⟨_, rfl⟩
  obtain ⟨X, hX⟩ := X0
  have er := rng1 (P := PG) (cl := call PG (n - 1)) (e := .int 12) (ρ := [some (.ref m), some (.tup (rs.map rwP)), some (.int (W : Int)), some (.int (H : Int)), some (.lst ((pic rs W H).map .str)), some (.ref h3.length), none, none, none, none, none]) (h := h3 ++ [X]) (h' := h3 ++ [X]) (n := 12) (by simp [body, q_ev_v, q_ev_non, q_ev_bl, q_ev_int, q_ev_str, q_ev_con, q_ev_tup, q_ev_lst, q_ev_bin, q_ev_neg, q_ev_not, q_ev_cmp, q_ev_chain, q_ev_and, q_ev_or, q_ev_ifx, q_ev_ix, q_ev_sl, q_ev_call, q_ev_blt, q_ev_isi, q_ev_met, q_ev_tupS, q_ev_lstS, q_ev_rev, q_ev_dnew, q_ev_dzip, q_ev_fnv, q_ev_calv, q_ev_comp2, q_ev_dcomp, q_ev_sls, q_ev_val, q_evs_nil, q_evs_cons, q_evs_star, q_evD_nil, q_evD_cons, q_evAnd_cons, q_evAnd_cons2, q_evOr_cons, q_evOr_cons2, q_evIfs_none, q_evIfs_some, q_evo_none, q_evo_some, q_evi_ex, q_run1_ex, q_run1_set, q_run1_put, q_run1_aug, q_run1_augs, q_run1_ite, q_run1_whl, q_run1_for, q_run1_ret, q_run1_retN, q_run1_rais, q_run1_try, q_run1_brk, q_run1_cnt, q_run1_pas, q_runs_nil, q_runs_cons, q_runH_nil, q_runH_cons, tst, bltop, bindG, bindGs, cmpop, ofB, truthy, int1, int2, ltop, leop, binop, addop, subop, mulop, divop, modop, powop, ixop, items, litems, ditems, mkLst, mkDic, lenop, intop, isiop, tyOf, putop, src, wipeP, metop, metok, isLst, isDic, isStr, isLsq, isTp, appop, popL, getD, slop, revop, tupop, lstop, keyOf, inop, Aes.len, peq, scalP, eqF, isNon, isBl, augop, augix]) (by omega)
  obtain ⟨ρ', hh, el, g, w6, w7, w8, w9, K', rfl, rfl, cg, kk⟩ := for_rel (α := Nat) (g := fun k : Nat => PV.int (k : Int)) (l := []) (body := turnF PG (call PG (n - 1)) (.nm 6) (.cons (.set (.nm 7) (.ix (.v 1) (.call "_law_dip" (.cons (.v 0) (.cons (.blt .len false (.cons (.v 1) .nil)) .nil)) [] .nil))) (.cons (.set (.tp (.cons (.nm 8) (.cons (.nm 9) .nil))) (.tup (.cons (.bin .sub false (.call "_law_dip" (.cons (.v 0) (.cons (.int 20) .nil)) [] .nil) (.int 6)) (.cons (.bin .sub false (.call "_law_dip" (.cons (.v 0) (.cons (.int 16) .nil)) [] .nil) (.int 5)) .nil)))) (.cons (.ite (.cmp .eq (.bin .mod false (.v 6) (.int 3)) (.int 0)) (.cons (.set (.nm 8) (.bin .add false (.ix (.v 7) (.int 1)) (.ix (.lst false (.cons (.neg (.int 1)) (.cons (.int 0) (.cons (.bin .sub false (.ix (.v 7) (.int 3)) (.int 1)) (.cons (.ix (.v 7) (.int 3)) .nil))))) (.call "_law_dip" (.cons (.v 0) (.cons (.int 4) .nil)) [] .nil)))) (.cons (.set (.nm 9) (.bin .add false (.ix (.v 7) (.int 2)) (.ix (.lst false (.cons (.neg (.int 1)) (.cons (.int 0) (.cons (.bin .sub false (.ix (.v 7) (.int 4)) (.int 1)) (.cons (.ix (.v 7) (.int 4)) .nil))))) (.call "_law_dip" (.cons (.v 0) (.cons (.int 4) .nil)) [] .nil)))) .nil)) .nil) (.cons (.ite (.not (.call "_law_same" (.cons (.call "hit" (.cons (.v 1) (.cons (.v 8) (.cons (.v 9) .nil))) [] .nil) (.cons (.call "_law_top" (.cons (.v 1) (.cons (.v 8) (.cons (.v 9) .nil))) [] .nil) .nil)) [] .nil)) (.cons (.ret (.bl false)) .nil) .nil) .nil)))))
    (fun xs ρ hh => ∃ (g : MH) (w6 w7 w8 w9 : Option PV) (K' : Nat), ρ = [some (.ref m), some (.tup (rs.map rwP)), some (.int (W : Int)), some (.int (H : Int)), some (.lst ((pic rs W H).map .str)), some (.ref h3.length), w6, w7, w8, w9, none] ∧ hh = g ++ [X] ∧ Chg (PK K') m h g ∧ K' + 5 * xs.length ≤ 2000) (fun _ _ _ _ => chk_nil) (fun y xs ρ hh ⟨g, w6, w7, w8, w9, K', r1, r2, cg, kk⟩ => by
      subst r1; subst r2
      simp only [List.length_cons] at kk
      obtain ⟨g', a7, a8, a9, q1, q2⟩ := hit_turn (PG := PG) (n := n - 1) (by omega) (K := K') (by omega) h g cg s X y (some (.int (W : Int))) (some (.int (H : Int))) (some (.lst ((pic rs W H).map .str))) (some (.ref h3.length)) w6 w7 w8 w9 none
      exact ⟨_, _, .inl q1, g', _, _, _, _, K' + 5, rfl, rfl, q2, by omega⟩) (List.range 12) [some (.ref m), some (.tup (rs.map rwP)), some (.int (W : Int)), some (.int (H : Int)), some (.lst ((pic rs W H).map .str)), some (.ref h3.length), none, none, none, none, none] (h3 ++ [X]) ⟨h3, none, none, none, none, K + 49 + 1 + 1, rfl, rfl, c3, by simp; omega⟩
  have e7 := (for_run (s := l_law_right_1) rfl er).trans el
  obtain ⟨t8, h8, e8, u8, v8, d8⟩ := s_dip (PG := PG) (n := n - 1) (K := K') (by omega) (g ++ [X]) 5 (cg.pk.app _) (by decide) (by decide) (by simp at kk; omega)
  obtain ⟨g8, rfl, d8'⟩ := d8.split cg.pk.lt
  have c8 := Chg.tr cg d8'
  obtain ⟨O, rfl⟩ := Int.eq_ofNat_of_zero_le u8
  have co : ((O + 1 : Nat) : Int) = (O : Int) + 1 := by omega
  obtain ⟨P2, hP2⟩ : ∃ P2 : MO, P2 = .lst ((pic rs (O + 1) O).map .str) := ⟨_, rfl⟩
  have e9 : call PG (n - 1) "drawn" [] ["high", "screen", "wide"] [.int (O : Int), .tup (rs.map rwP), .int ((O : Int) + 1)] (g8 ++ [X]) = .ok (.ref (g8.length + 1)) (g8 ++ [X, P2]) := by
    have := dr (g8 ++ [X]) (O + 1) O (by omega) (by omega)
    rw [co, ← hP2] at this
    rw [kw_ge (f := "drawn") rfl rfl]
    refine Eq.trans this ?_
    simp
  have e10 := sg (g8 ++ [X, P2]) (O + 1) O (by omega) (by omega)
  rw [co] at e10
  have e11 := same_ref (PG := PG) (n := n - 1) (by omega) (g8 ++ [X, P2]) (ss := pic rs (O + 1) O) (by rw [pic_len]; omega) (j := g8.length + 1) (by rw [hP2]; simp)
  have e12 : call PG (n - 1) "hit" [] ["y", "x", "screen"] [.int 1, .int 2, .tup (rs.map rwP)] (g8 ++ [X, P2]) = .ok (.str (topR rs 2 1)) (g8 ++ [X, P2]) := by
    rw [kw_ge (f := "hit") rfl rfl]
    exact s_hit (PG := PG) (n := n - 1) (by omega) (g8 ++ [X, P2]) s 2 1 (by show _ < _; decide) (by show _ < _; decide)
  have e13 := s_law_top (PG := PG) (n := n - 1) (by omega) (g8 ++ [X, P2]) rs 2 1
  have e14 := s_same_str (PG := PG) (n := n - 1) (by omega) (g8 ++ [X, P2]) (topR rs 2 1)
  have e15 : call PG (n - 1) "drawn" [.tup (rs.map rwP), .int (W : Int), .int (H : Int)] [] [] (g8 ++ [X, P2]) = .ok (.ref (g8.length + 2)) (g8 ++ [X, P2, .lst ((pic rs W H).map .str)]) := by
    have := dr (g8 ++ [X, P2]) W H (by omega) (by omega)
    refine Eq.trans this ?_
    simp
  have e16 := same_ref (PG := PG) (n := n - 1) (by omega) (g8 ++ [X, P2, .lst ((pic rs W H).map .str)]) (ss := pic rs W H) (by rw [pic_len]; omega) (j := g8.length + 2) (by simp)
  refine ⟨g8, ?_, c8.len⟩
  have ce := fun e => Chg.end_rt (v := .bl true) (e := e) PK.below c8
  generalize (pic rs (O + 1) O).map PV.str = Q2 at *
  generalize (pic rs W H).map PV.str = Q at *
  generalize rs.map rwP = RS at *
  subst hX
  simp [body, q_ev_v, q_ev_non, q_ev_bl, q_ev_int, q_ev_str, q_ev_con, q_ev_tup, q_ev_lst, q_ev_bin, q_ev_neg, q_ev_not, q_ev_cmp, q_ev_chain, q_ev_and, q_ev_or, q_ev_ifx, q_ev_ix, q_ev_sl, q_ev_call, q_ev_blt, q_ev_isi, q_ev_met, q_ev_tupS, q_ev_lstS, q_ev_rev, q_ev_dnew, q_ev_dzip, q_ev_fnv, q_ev_calv, q_ev_comp2, q_ev_dcomp, q_ev_sls, q_ev_val, q_evs_nil, q_evs_cons, q_evs_star, q_evD_nil, q_evD_cons, q_evAnd_cons, q_evAnd_cons2, q_evOr_cons, q_evOr_cons2, q_evIfs_none, q_evIfs_some, q_evo_none, q_evo_some, q_evi_ex, q_run1_ex, q_run1_set, q_run1_put, q_run1_aug, q_run1_augs, q_run1_ite, q_run1_whl, q_run1_for, q_run1_ret, q_run1_retN, q_run1_rais, q_run1_try, q_run1_brk, q_run1_cnt, q_run1_pas, q_runs_nil, q_runs_cons, q_runH_nil, q_runH_cons, tst, bltop, bindG, bindGs, cmpop, ofB, truthy, int1, int2, ltop, leop, binop, addop, subop, mulop, divop, modop, powop, ixop, items, litems, ditems, mkLst, mkDic, lenop, intop, isiop, tyOf, putop, src, wipeP, metop, metok, isLst, isDic, isStr, isLsq, isTp, appop, popL, getD, slop, revop, tupop, lstop, keyOf, inop, Aes.len, peq, scalP, eqF, isNon, isBl, augop, augix, f_law_right, e1, e2, e3, e4, e5, e6, zl]
  simp [body, q_ev_v, q_ev_non, q_ev_bl, q_ev_int, q_ev_str, q_ev_con, q_ev_tup, q_ev_lst, q_ev_bin, q_ev_neg, q_ev_not, q_ev_cmp, q_ev_chain, q_ev_and, q_ev_or, q_ev_ifx, q_ev_ix, q_ev_sl, q_ev_call, q_ev_blt, q_ev_isi, q_ev_met, q_ev_tupS, q_ev_lstS, q_ev_rev, q_ev_dnew, q_ev_dzip, q_ev_fnv, q_ev_calv, q_ev_comp2, q_ev_dcomp, q_ev_sls, q_ev_val, q_evs_nil, q_evs_cons, q_evs_star, q_evD_nil, q_evD_cons, q_evAnd_cons, q_evAnd_cons2, q_evOr_cons, q_evOr_cons2, q_evIfs_none, q_evIfs_some, q_evo_none, q_evo_some, q_evi_ex, q_run1_ex, q_run1_set, q_run1_put, q_run1_aug, q_run1_augs, q_run1_ite, q_run1_whl, q_run1_for, q_run1_ret, q_run1_retN, q_run1_rais, q_run1_try, q_run1_brk, q_run1_cnt, q_run1_pas, q_runs_nil, q_runs_cons, q_runH_nil, q_runH_cons, tst, bltop, bindG, bindGs, cmpop, ofB, truthy, int1, int2, ltop, leop, binop, addop, subop, mulop, divop, modop, powop, ixop, items, litems, ditems, mkLst, mkDic, lenop, intop, isiop, tyOf, putop, src, wipeP, metop, metok, isLst, isDic, isStr, isLsq, isTp, appop, popL, getD, slop, revop, tupop, lstop, keyOf, inop, Aes.len, peq, scalP, eqF, isNon, isBl, augop, augix, e7, e8, e9, e10, e11, e12, e13, e14, e15, e16]
  exact ce _
theorem law_plain47 {PG : Pg} [Has PG "law" f_law_k47] [Has PG "_law_well" f_law_well] [Has PG "_law_right" f_law_right] [Has PG "drawn" f_drawn] [Has PG "is_integer" f_is_integer] [Has PG "numbered" f_numbered] [Has PG "is_ascending" f_is_ascending] [Has PG "is_number" f_is_number] [Has PG "is_pair" f_is_pair] [Has PG "lowest" f_lowest] [Has PG "is_row" f_is_row] [Has PG "is_name" f_is_name] [Has PG "as_number" f_as_number] [Has PG "top_name" f_top_name] [Has PG "covers" f_covers] [Has PG "is_less" f_is_less] [Has PG "along" f_along] [Has PG "sum_of_two" f_sum_of_two] [Has PG "hit" f_hit] [Has PG "_law_dip" f_law_dip] [Has PG "_law_same" f_law_same] [Has PG "_law_screen" f_law_screen] [Has PG "_law_top" f_law_top] [Has PG "_law_signs" f_law_signs] [HasC PG "AXES" (.tup [(.str "across"), (.str "down")])] [HasC PG "LETTERS" (.str "abcdefghijklmnopqrstuvwxyz")] [HasC PG "MOST_NAME" (.int 8)] {n : Nat} (hn : 20 ≤ n) (ns : List Int) (hl : ns.length ≤ 63) (hb : ∀ z ∈ ns, Builtin.Int.intBits z ≤ 1048576) : ∃ h', body PG (call PG n) f_law_k47 [.lst (ns.map .int)] [] = .ok (.bl true) h' := by
  obtain ⟨N, N8, eN⟩ : ∃ N : Nat, N ≤ 8 ∧ evi PG (call PG n) (.range1 (.blt .max false (.cons (.int 1) (.cons (.blt .min false (.cons (.int 6) (.cons (.blt .len false (.cons (.v 0) .nil)) .nil))) .nil)))) [some (.lst (ns.map .int)), none] [] = .ok ([], (List.range N).map fun (k : Nat) => PV.int (k : Int)) [] := by
    have ln : ∀ q, lenop (.lst (ns.map PV.int)) q = .ok (.int (ns.length : Int)) q := fun q => by simp [lenop, items]
    generalize ns.map PV.int = NS at *
    refine ⟨(if 1 < (if (ns.length : Int) < 6 then (ns.length : Int) else 6) then (if (ns.length : Int) < 6 then (ns.length : Int) else 6) else 1).toNat, by split <;> (try split) <;> omega, rng1 (by
      simp [body, q_ev_v, q_ev_non, q_ev_bl, q_ev_int, q_ev_str, q_ev_con, q_ev_tup, q_ev_lst, q_ev_bin, q_ev_neg, q_ev_not, q_ev_cmp, q_ev_chain, q_ev_and, q_ev_or, q_ev_ifx, q_ev_ix, q_ev_sl, q_ev_call, q_ev_blt, q_ev_isi, q_ev_met, q_ev_tupS, q_ev_lstS, q_ev_rev, q_ev_dnew, q_ev_dzip, q_ev_fnv, q_ev_calv, q_ev_comp2, q_ev_dcomp, q_ev_sls, q_ev_val, q_evs_nil, q_evs_cons, q_evs_star, q_evD_nil, q_evD_cons, q_evAnd_cons, q_evAnd_cons2, q_evOr_cons, q_evOr_cons2, q_evIfs_none, q_evIfs_some, q_evo_none, q_evo_some, q_evi_ex, q_run1_ex, q_run1_set, q_run1_put, q_run1_aug, q_run1_augs, q_run1_ite, q_run1_whl, q_run1_for, q_run1_ret, q_run1_retN, q_run1_rais, q_run1_try, q_run1_brk, q_run1_cnt, q_run1_pas, q_runs_nil, q_runs_cons, q_runH_nil, q_runH_cons, tst, bltop, bindG, bindGs, cmpop, ofB, truthy, int1, int2, ltop, leop, binop, addop, subop, mulop, divop, modop, powop, ixop, items, litems, ditems, mkLst, mkDic, lenop, intop, isiop, tyOf, putop, src, wipeP, metop, metok, isLst, isDic, isStr, isLsq, isTp, appop, popL, getD, slop, revop, tupop, lstop, keyOf, inop, Aes.len, peq, scalP, eqF, isNon, isBl, augop, augix, -lenop, ln]) (by split <;> (try split) <;> omega)⟩
  obtain ⟨ρ', hh, el, _, w, rfl⟩ := for_rel (α := Nat) (g := fun k : Nat => PV.int (k : Int)) (l := []) (body := turnF PG (call PG n) (.nm 1) (.cons (.ite (.not (.call "_law_right" (.cons (.call "_law_well" (.cons (.v 0) (.cons (.v 1) .nil)) [] .nil) .nil) [] .nil)) (.cons (.ret (.bl false)) .nil) .nil) .nil))
    (fun xs ρ hh => (∀ x ∈ xs, x ≤ 10) ∧ ∃ w, ρ = [some (.lst (ns.map .int)), w]) (fun _ _ _ _ => chk_nil) (fun y xs ρ hh ⟨hx, w, r1⟩ => by
      subst r1
      obtain ⟨o, po, e1⟩ := s_well (PG := PG) (n := n) (by omega) hh ns hl hb y (hx y List.mem_cons_self)
      obtain ⟨h2, e2, l2⟩ := s_law_right (PG := PG) (n := n) (by omega) (m := hh.length) (K := 0) (by omega) (hh ++ [o]) ⟨o, by simp, po⟩
      refine ⟨_, h2, .inl ?_, fun z hz => hx z (List.mem_cons_of_mem _ hz), some (.int (y : Int)), rfl⟩
      generalize ns.map PV.int = S at *
      simp [body, q_ev_v, q_ev_non, q_ev_bl, q_ev_int, q_ev_str, q_ev_con, q_ev_tup, q_ev_lst, q_ev_bin, q_ev_neg, q_ev_not, q_ev_cmp, q_ev_chain, q_ev_and, q_ev_or, q_ev_ifx, q_ev_ix, q_ev_sl, q_ev_call, q_ev_blt, q_ev_isi, q_ev_met, q_ev_tupS, q_ev_lstS, q_ev_rev, q_ev_dnew, q_ev_dzip, q_ev_fnv, q_ev_calv, q_ev_comp2, q_ev_dcomp, q_ev_sls, q_ev_val, q_evs_nil, q_evs_cons, q_evs_star, q_evD_nil, q_evD_cons, q_evAnd_cons, q_evAnd_cons2, q_evOr_cons, q_evOr_cons2, q_evIfs_none, q_evIfs_some, q_evo_none, q_evo_some, q_evi_ex, q_run1_ex, q_run1_set, q_run1_put, q_run1_aug, q_run1_augs, q_run1_ite, q_run1_whl, q_run1_for, q_run1_ret, q_run1_retN, q_run1_rais, q_run1_try, q_run1_brk, q_run1_cnt, q_run1_pas, q_runs_nil, q_runs_cons, q_runH_nil, q_runH_cons, tst, bltop, bindG, bindGs, cmpop, ofB, truthy, int1, int2, ltop, leop, binop, addop, subop, mulop, divop, modop, powop, ixop, items, litems, ditems, mkLst, mkDic, lenop, intop, isiop, tyOf, putop, src, wipeP, metop, metok, isLst, isDic, isStr, isLsq, isTp, appop, popL, getD, slop, revop, tupop, lstop, keyOf, inop, Aes.len, peq, scalP, eqF, isNon, isBl, augop, augix, turnF, e1, e2]) (List.range N) [some (.lst (ns.map .int)), none] [] ⟨fun x hx => by have := List.mem_range.mp hx; omega, none, rfl⟩
  have e6 : run1 PG (call PG n) l_law_1_k47 [some (.lst (ns.map .int)), none] [] = _ := (for_run rfl eN).trans el
  refine ⟨(leave [] (.bl true) hh).2, ?_⟩
  generalize ns.map PV.int = S at *
  simp [body, q_ev_v, q_ev_non, q_ev_bl, q_ev_int, q_ev_str, q_ev_con, q_ev_tup, q_ev_lst, q_ev_bin, q_ev_neg, q_ev_not, q_ev_cmp, q_ev_chain, q_ev_and, q_ev_or, q_ev_ifx, q_ev_ix, q_ev_sl, q_ev_call, q_ev_blt, q_ev_isi, q_ev_met, q_ev_tupS, q_ev_lstS, q_ev_rev, q_ev_dnew, q_ev_dzip, q_ev_fnv, q_ev_calv, q_ev_comp2, q_ev_dcomp, q_ev_sls, q_ev_val, q_evs_nil, q_evs_cons, q_evs_star, q_evD_nil, q_evD_cons, q_evAnd_cons, q_evAnd_cons2, q_evOr_cons, q_evOr_cons2, q_evIfs_none, q_evIfs_some, q_evo_none, q_evo_some, q_evi_ex, q_run1_ex, q_run1_set, q_run1_put, q_run1_aug, q_run1_augs, q_run1_ite, q_run1_whl, q_run1_for, q_run1_ret, q_run1_retN, q_run1_rais, q_run1_try, q_run1_brk, q_run1_cnt, q_run1_pas, q_runs_nil, q_runs_cons, q_runH_nil, q_runH_cons, tst, bltop, bindG, bindGs, cmpop, ofB, truthy, int1, int2, ltop, leop, binop, addop, subop, mulop, divop, modop, powop, ixop, items, litems, ditems, mkLst, mkDic, lenop, intop, isiop, tyOf, putop, src, wipeP, metop, metok, isLst, isDic, isStr, isLsq, isTp, appop, popL, getD, slop, revop, tupop, lstop, keyOf, inop, Aes.len, peq, scalP, eqF, isNon, isBl, augop, augix, f_law_k47, e6]
  show Res.ok (leave [] (.bl true) hh).1 _ = _
  rw [leave_dt (by simp) (fun n o hn => by simp at hn)]
end Mx.FB

end

set_option Elab.async false
set_option linter.all false
set_option maxRecDepth 100000
set_option maxHeartbeats 0
open PySem PySem.W PySem.Calls PyProof.Rows
theorem PySem.Challenge.cw_rankedwishes_k47_drawn_and_hit_holds : PySem.Challenge.rw_rankedwishes_k47_drawn_and_hit.Holds := by
  w_on; o_law
  refine HandSHeadRun.head_imp (r := OpenLaw.row PySem.Challenge.rw_rankedwishes_k47_drawn_and_hit) (q := view (OpenLaw.row PySem.Challenge.rw_rankedwishes_k47_drawn_and_hit).prog [0, 36]) (H := Mx.K47.hk) (ob := Mx.K47.ob) (M := 20000) (loose := Mx.K47.loose) (d := HandSHeadRun.topDef (OpenLaw.row PySem.Challenge.rw_rankedwishes_k47_drawn_and_hit).prog 36) (kwd := []) Mx.K47.ob_eq
    Mx.K47.run (by kernel_rfl) (by kernel_rfl) (by kernel_rfl) (by rfl) (by first | assumption | decide +kernel) (by decide +kernel) ⟨rfl, rfl, rfl, rfl, rfl, by decide +kernel⟩ ?hw ?hc
  case hw => w_witness2
  case hc =>
    exact Mx.law_endB (l := PySem.Challenge.rw_rankedwishes_k47_drawn_and_hit) Mx.K47.txt (e := Mx.K47.e_law) (by simp [Mx.K47.ents]) rfl (by kernel_rfl) (by kernel_rfl) (by decide +kernel) rfl 60 ⟨rfl, by decide, by decide⟩ fun ns hl hb => Mx.FB.law_plain47 (PG := Mx.K47.PG) (n := 60) (by decide) ns hl hb
